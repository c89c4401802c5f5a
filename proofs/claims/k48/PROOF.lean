import PyProof.Rows.All
import Wide.All
import OpenK.AllK
import Wide.FinOn
import PyProof.P3Statements
import PyProof.ReprReads
import KE.LtData
import KE.DataMinMax
import KE.DataIsa
import PyProof.EqAt
import PyProof.EqKinds
import PyProof.TupleCall
import HandS.ForMost
import HandS.ForExc
import HandS.Lambda
import HandS.EndTab
import HandS.TryMany
import HandS.Wide
import HandS.ExcOwn
import KE.SortData
import HandS.TupMul
import HandS.TupAny
import HandS.IsInst
import HandS.Conv
import HandS.Flow
import HandS.Style
import KE.DataCmp
import KE.DataAny
import KE.KTupSum
import PyProof.TupleOfSeq
import HandS.Zip
import PyProof.ReprRoads
import PyProof.CallFns
import HandS.Iter
import HandS.Dict
import HandS.More
import HandS.WordsDict
import HandS.SetFor
import PyProof.IsRules
import KE.GoesMore
import PyProof.EnumMake
import HandS.Strs
import PyProof.Rows.IntBool
import PyProof.ListIndexNeg
import KE.KIndexOf
import HandS.Text
import PyProof.SumWalk
import KE.DataEq
import PyProof.Rows.RegFStrParts
import PySem.Challenge.RW_tunehouse_k48_round_polynomials
set_option Elab.async false
section
set_option linter.all false
set_option maxRecDepth 100000
/-! TnDen: what the core of the programs' language computes, over plain data: values are PyData; a state is a list of shared mutable lists. -/
namespace Tn
open PySem
abbrev D := PyData
/-- the errors that the programs raise -/
inductive Ex where | bad | notso | much
  deriving DecidableEq
/-- what a name holds: nothing; a value that nobody changes; a place of the store; a list of one's own; the same while it is walked -/
inductive Sl where | un | sh (d : D) | rf (n : Nat) | ow (d : D) | lk (d : D) | sc (d : D)
inductive Res (α : Type) where | ok (a : α) (S : List D) | ex (e : Ex) (S : List D)
abbrev M (α : Type) := List D → Option (Res α)
abbrev Ev := List Sl
def ret {α : Type} (a : α) : M α := fun S => some (.ok a S)
def stk {α : Type} : M α := fun _ => none
def rse {α : Type} (e : Ex) : M α := fun S => some (.ex e S)
def lft {α : Type} (o : Option α) : M α := fun S => match o with | some a => some (.ok a S) | none => none
def bnd {α β : Type} (m : M α) (k : α → M β) : M β := fun S => match m S with | none => none | some (.ok a S1) => k a S1 | some (.ex e S1) => some (.ex e S1)
section
variable {α β γ : Type} {m : M α} {k : α → M β} {S S1 : List D} {a : α} {e : Ex}
theorem bnd_ok (h : m S = some (.ok a S1)) : bnd m k S = k a S1 := by unfold bnd; rw [h]
theorem bnd_ex (h : m S = some (.ex e S1)) : bnd m k S = some (.ex e S1) := by unfold bnd; rw [h]
theorem bnd_no (h : m S = none) : bnd m k S = none := by unfold bnd; rw [h]
@[simp] theorem ret_bnd (a : α) (k : α → M β) : bnd (ret a) k = k a := rfl
@[simp] theorem stk_bnd (k : α → M β) : bnd (stk : M α) k = stk := rfl
@[simp] theorem rse_bnd (e : Ex) (k : α → M β) : bnd (rse e : M α) k = rse e := rfl
@[simp] theorem lft_some (a : α) : lft (some a) = ret a := rfl
@[simp] theorem lft_none : lft (none : Option α) = stk := rfl
@[simp] theorem ret_app (a : α) (S : List D) : ret a S = some (.ok a S) := rfl
@[simp] theorem rse_app (e : Ex) (S : List D) : (rse e : M α) S = some (.ex e S) := rfl
theorem bnd_bnd (m : M α) (k : α → M β) (l : β → M γ) : bnd (bnd m k) l = bnd m fun a => bnd (k a) l := by
  funext S
  unfold bnd
  cases m S with
  | none => rfl
  | some r => cases r <;> rfl
theorem bnd_ret (m : M α) : bnd m ret = m := by
  funext S
  unfold bnd
  cases m S with
  | none => rfl
  | some r => cases r <;> rfl
end
/-! ### kinds of pieces -/
abbrev XE := Ev → M D
abbrev XT := Ev → M Bool
abbrev XL := Ev → M (List D)
abbrev XA := Ev → M Sl
abbrev XAs := Ev → M (List Sl)
abbrev Fn := List Sl → M Sl
inductive SR where | nx (ε : Ev) | rt (v : Sl) | bk (ε : Ev) | ct (ε : Ev)
abbrev XS := Ev → M SR
/-! ### plain operations -/
def big : Nat := 16777216
def truth : D → Bool
  | .none => false | .bool b => b | .int i => i != 0 | .str s => s.cps.size != 0 | .list xs => !xs.isEmpty | .tuple xs => !xs.isEmpty | .dict kvs => !kvs.isEmpty
def truthO : D → Option Bool
  | .str s => if s.length ≤ big then some (s.cps.size != 0) else none
  | d => some (truth d)
def mulOk (i j : Int) : Bool := decide (i.natAbs < 2 ^ 63) || decide (j.natAbs < 2 ^ 63) || decide (i.natAbs.log2 + j.natAbs.log2 < 1000000)
def repl (n : Nat) (xs : List D) : List D := (List.replicate n xs).flatten
def opAdd : D → D → Option D
  | .int i, .int j => some (.int (i + j))
  | .str x, .str y => if x.length + y.length ≤ big then some (.str (x ++ y)) else none
  | .tuple xs, .tuple ys => if xs.length + ys.length ≤ big then some (.tuple (xs ++ ys)) else none
  | _, _ => none
def opAddI : D → D → Option D
  | .int i, .int j => some (.int (i + j))
  | _, _ => none
def opSub : D → D → Option D
  | .int i, .int j => some (.int (i - j))
  | _, _ => none
def opMul : D → D → Option D
  | .int i, .int j => if mulOk i j then some (.int (i * j)) else none
  | .tuple xs, .int k => if decide (xs.length ≤ 1000) && decide (-(2 ^ 62) < k) && decide (k ≤ 1000) then some (.tuple (repl k.toNat xs)) else none
  | _, _ => none
def opFd : D → D → Option D
  | .int i, .int j => if decide (0 < j) && decide (j.natAbs.log2 < 9000) then some (.int (i / j)) else none
  | _, _ => none
def opMod : D → D → Option D
  | .int i, .int j => if 0 < j then some (.int (i % j)) else none
  | _, _ => none
def opPow : D → D → Option D
  | .int i, .int j => if decide (0 ≤ j) && decide (j ≤ 1000000) && decide (i.natAbs < 2 ^ 64) then some (.int (i ^ j.toNat)) else none
  | _, _ => none
def opNeg : D → Option D
  | .int i => some (.int (-i))
  | _ => none
def opEq (x y : D) : Option D := if x.depth ≤ 64 ∨ y.depth ≤ 64 then some (.bool (PyData.eqv x y)) else none
def opNe (x y : D) : Option D := if x.depth ≤ 64 ∨ y.depth ≤ 64 then some (.bool (!PyData.eqv x y)) else none
def isNone : D → Bool
  | .none => true
  | _ => false
/-- two data that Python's order can hold against one another -/
def ordOk (x y : D) : Bool := PySem.W.alike x y && decide (x.depth ≤ 64) && !isNone x
def opLt : D → D → Option D
  | .int i, .int j => some (.bool (decide (i < j)))
  | x, y => if ordOk x y then some (.bool (PySem.W.dataLt x y)) else none
def opLe : D → D → Option D
  | .int i, .int j => some (.bool (decide (i ≤ j)))
  | x, y => if ordOk x y then some (.bool (!PySem.W.dataLt y x)) else none
def opGt : D → D → Option D
  | .int i, .int j => some (.bool (decide (j < i)))
  | x, y => if ordOk x y then some (.bool (PySem.W.dataLt y x)) else none
def opGe : D → D → Option D
  | .int i, .int j => some (.bool (decide (j ≤ i)))
  | x, y => if ordOk x y then some (.bool (!PySem.W.dataLt x y)) else none
def opIsN (x : D) : Option D := some (.bool (isNone x))
def opNotN (x : D) : Option D := some (.bool (!isNone x))
/-- items of a list or tuple -/
def seqOf : D → Option (List D)
  | .list xs => some xs
  | .tuple xs => some xs
  | _ => none
def memD (x : D) (ys : List D) : Bool := ys.any fun y => PyData.eqv y x
def opIn (x y : D) : Option D := match seqOf y with
  | some ys => if x.depth ≤ 64 then some (.bool (memD x ys)) else none
  | none => none
def opNotIn (x y : D) : Option D := match seqOf y with
  | some ys => if x.depth ≤ 64 then some (.bool (!memD x ys)) else none
  | none => none
def pyIx (n : Nat) (i : Int) : Option Nat := if 0 ≤ i then (if i < n then some i.toNat else none) else if -(n : Int) ≤ i then some (i + n).toNat else none
def atL (xs : List D) (i : Int) : Option D := match pyIx xs.length i with | some j => xs[j]? | none => none
def opIx : D → D → Option D
  | .list xs, .int i => atL xs i
  | .tuple xs, .int i => atL xs i
  | _, _ => none
def sIx (n dflt : Nat) : Option Int → Nat
  | none => dflt
  | some i => if i < 0 then (i + n).toNat else min i.toNat n
def cutL (xs : List D) (lo hi : Option Int) : List D := (xs.drop (sIx xs.length 0 lo)).take (sIx xs.length xs.length hi - sIx xs.length 0 lo)
def opSlT (x : D) (lo hi : Option Int) : Option D := match x with
  | .tuple xs => some (.tuple (cutL xs lo hi))
  | _ => none
def opRevT : D → Option D
  | .tuple xs => some (.tuple xs.reverse)
  | .list xs => some (.list xs.reverse)
  | _ => none
def opLen : D → Option D
  | .list xs => some (.int xs.length)
  | .tuple xs => some (.int xs.length)
  | .str s => if s.length ≤ big then some (.int s.length) else none
  | _ => none
def opAbs : D → Option D
  | .int i => some (.int (if i < 0 then -i else i))
  | _ => none
def opInt : D → Option D
  | .int i => some (.int i)
  | .bool b => some (.int (if b then 1 else 0))
  | _ => none
def opMax2 : D → D → Option D
  | .int i, .int j => some (.int (if j > i then j else i))
  | _, _ => none
def opMin2 : D → D → Option D
  | .int i, .int j => some (.int (if j < i then j else i))
  | _, _ => none
def isInt : D → Bool
  | .int _ => true
  | _ => false
def intOf : D → Int
  | .int i => i
  | _ => 0
def boolsOf : List D → Option (List Bool)
  | [] => some []
  | .bool b :: r => (boolsOf r).map (b :: ·)
  | _ :: _ => none
def opAll (x : D) : Option D := match seqOf x with
  | some xs => (boolsOf xs).map fun bs => .bool (bs.all id)
  | none => none
def opAny (x : D) : Option D := match seqOf x with
  | some xs => (boolsOf xs).map fun bs => .bool (bs.any id)
  | none => none
def intsOf : List D → Option (List Int)
  | [] => some []
  | .int i :: r => (intsOf r).map (i :: ·)
  | _ :: _ => none
def opSum (x : D) : Option D := match seqOf x with
  | some xs => (intsOf xs).map fun is => .int is.sum
  | none => none
/-- the data may be held against one another, all of them -/
def allAlike (xs : List D) : Bool := xs.all (fun x => xs.all fun y => PySem.W.alike x y) && xs.all (fun x => !isNone x) && decide (PyData.depthAll xs ≤ 64)
def opMax (x : D) : Option D := match seqOf x with
  | some (y :: ys) => match intsOf (y :: ys) with
    | some (i :: is) => some (.int (is.foldl max i))
    | _ => if allAlike (y :: ys) then some (PySem.W.maxD y ys) else none
  | _ => none
def opMin (x : D) : Option D := match seqOf x with
  | some (y :: ys) => match intsOf (y :: ys) with
    | some (i :: is) => some (.int (is.foldl min i))
    | _ => if allAlike (y :: ys) then some (PySem.W.minD y ys) else none
  | _ => none
def opTuple : D → Option D
  | .list xs => some (.tuple xs)
  | .tuple xs => some (.tuple xs)
  | _ => none
def opRepr (x : D) : Option D := if x.showable && !x.hasDict && decide (x.depth ≤ 64) && decide (x.shown.length ≤ big) && PyData.strOk x.shown then some (.str x.shown) else none
inductive Ty where | int | bool | tuple | str | list
  deriving DecidableEq
def isOf : Ty → D → Bool
  | .int => PyData.isInt
  | .bool => PyData.isBool
  | .tuple => PyData.isTuple
  | .str => PyData.isStr
  | .list => PyData.isList
def opIs (t : Ty) (x : D) : Option D := some (.bool (isOf t x))
/-! ### expressions -/
def xK (d : D) : XE := fun _ => ret d
def xV (i : Nat) : XE := fun ε => match ε[i]? with
  | some (.sh d) => ret d
  | _ => stk
/-- a name's value, at once used and given back -/
def xB (i : Nat) : XE := fun ε => match ε[i]? with
  | some (.sh d) => ret d
  | some (.ow d) => ret d
  | some (.rf n) => fun S => match S[n]? with
    | some d => some (.ok d S)
    | none => none
  | _ => stk
def x1 (g : D → Option D) (a : XE) : XE := fun ε => bnd (a ε) fun x => lft (g x)
def x2 (g : D → D → Option D) (a b : XE) : XE := fun ε => bnd (a ε) fun x => bnd (b ε) fun y => lft (g x y)
def xs0 : XL := fun _ => ret []
def xsC (a : XE) (r : XL) : XL := fun ε => bnd (a ε) fun x => bnd (r ε) fun xs => ret (x :: xs)
def xTup (l : XL) : XE := fun ε => bnd (l ε) fun ds => if ds.length ≤ big then ret (.tuple ds) else stk
/-- a new list taken as one that nobody changes -/
def xFz (l : XL) : XE := fun ε => bnd (l ε) fun ds => ret (.list ds)
def xIf (c : XT) (a b : XE) : XE := fun ε => bnd (c ε) fun t => if t then a ε else b ε
def xAnd (a b : XE) : XE := fun ε => bnd (a ε) fun x => bnd (lft (truthO x)) fun t => if t then b ε else ret x
def xOr (a b : XE) : XE := fun ε => bnd (a ε) fun x => bnd (lft (truthO x)) fun t => if t then ret x else b ε
def xNot (a : XT) : XE := fun ε => bnd (a ε) fun t => ret (.bool (!t))
def xChn (g h : D → D → Option D) (a b c : XE) : XE := fun ε => bnd (a ε) fun x => bnd (b ε) fun y => bnd (lft (g x y)) fun z => match z with | .bool t => if t then bnd (c ε) fun w => lft (h y w) else ret (.bool false) | _ => stk
def xo (o : Option XE) : Ev → M (Option Int) := fun ε => match o with
  | none => ret none
  | some a => bnd (a ε) fun x => match x with | .int i => ret (some i) | _ => stk
def xSlT (a : XE) (lo hi : Option XE) : XE := fun ε => bnd (a ε) fun x => bnd (xo lo ε) fun l => bnd (xo hi ε) fun h => lft (opSlT x l h)
/-! ### tests -/
def tV (a : XE) : XT := fun ε => bnd (a ε) fun x => lft (truthO x)
def tNot (c : XT) : XT := fun ε => bnd (c ε) fun t => ret (!t)
def tAnd (a b : XT) : XT := fun ε => bnd (a ε) fun t => if t then b ε else ret false
def tOr (a b : XT) : XT := fun ε => bnd (a ε) fun t => if t then ret true else b ε
def tYes : XT := fun _ => ret true
/-! ### targets -/
inductive Tg where | nm (i : Nat) | tup (ts : List Tg)
mutual
def bindT : Tg → D → Ev → Option Ev
  | .nm i, d, ε => some (ε.set i (.sh d))
  | .tup ts, .tuple ds, ε => bindTs ts ds ε
  | .tup _, _, _ => none
def bindTs : List Tg → List D → Ev → Option Ev
  | [], [], ε => some ε
  | t :: ts, d :: ds, ε => match bindT t d ε with
    | some ε1 => bindTs ts ds ε1
    | none => none
  | _, _, _ => none
end
/-! ### what is walked -/
def iSeq (a : XE) : XL := fun ε => bnd (a ε) fun x => lft (seqOf x)
def rngL (lo : Int) (n : Nat) : List D := (List.range n).map fun (k : Nat) => .int (lo + k)
def rngD (lo step : Int) (n : Nat) : List D := (List.range n).map fun (k : Nat) => .int (lo + k * step)
def iR1 (a : XE) : XL := fun ε => bnd (a ε) fun x => match x with
  | .int j => if decide (j ≤ big) && decide (-(2 ^ 60) < j) then ret (rngL 0 j.toNat) else stk
  | _ => stk
def iR2 (a b : XE) : XL := fun ε => bnd (a ε) fun x => bnd (b ε) fun y => match x, y with
  | .int i, .int j => if decide (j - i ≤ big) && decide (-(2 ^ 60) < i) && decide (i < 2 ^ 60) && decide (-(2 ^ 60) < j) then ret (rngL i (j - i).toNat) else stk
  | _, _ => stk
def enumL (k : Nat) : List D → List D
  | [] => []
  | x :: r => .tuple [.int k, x] :: enumL (k + 1) r
def iEnum (a : XE) : XL := fun ε => bnd (a ε) fun x => lft ((seqOf x).map (enumL 0))
def zipL : List D → List D → List D
  | x :: xs, y :: ys => .tuple [x, y] :: zipL xs ys
  | _, _ => []
def iZip (a b : XE) : XL := fun ε => bnd (a ε) fun x => bnd (b ε) fun y => lft ((seqOf x).bind fun xs => (seqOf y).map fun ys => zipL xs ys)
/-! ### new lists -/
def lDisp (l : XL) : XL := fun ε => bnd (l ε) fun ds => if ds.length ≤ big then ret ds else stk
def wip : Ev → List Nat → Ev
  | ε, [] => ε
  | ε, v :: vs => (wip ε vs).set v .un
/-- no error leaves a comprehension -/
def qt {α : Type} (m : M α) : M α := fun S => match m S with
  | some (.ok a S1) => some (.ok a S1)
  | _ => none
@[simp] theorem qt_ret {α : Type} (a : α) : qt (ret a) = ret a := rfl
def compGo (tg : Tg) (c : XT) (e : XE) (ε : Ev) : List D → M (List D)
  | [] => ret []
  | x :: r => match bindT tg x ε with
    | none => stk
    | some ε1 => bnd (qt (c ε1)) fun t => if t then bnd (qt (e ε1)) fun y => bnd (compGo tg c e ε r) fun ys => ret (y :: ys) else compGo tg c e ε r
def noOw (ε : Ev) (own : List Nat) : Bool := own.all fun i => match ε[i]? with
  | some (.ow _) => false
  | some (.lk _) => false
  | _ => true
def lComp (it : XL) (tg : Tg) (c : XT) (e : XE) (own : List Nat) : XL := fun ε => bnd (it ε) fun items => if noOw ε own then compGo tg c e (wip ε own) items else stk
def lRep (l : XL) (k : XE) : XL := fun ε => bnd (l ε) fun ds => bnd (k ε) fun x => match x with
  | .int k => if decide (ds.length * k.toNat ≤ big) && decide (k < 2 ^ 62) && decide (-(2 ^ 62) < k) then ret (repl k.toNat ds) else stk
  | _ => stk
def lOf (a : XE) : XL := fun ε => bnd (a ε) fun x => lft (seqOf x)
def lCat (a b : XE) : XL := fun ε => bnd (a ε) fun x => bnd (b ε) fun y => match x, y with
  | .list xs, .list ys => if xs.length + ys.length ≤ big then ret (xs ++ ys) else stk
  | _, _ => stk
def lSl (a : XE) (lo hi : Option XE) : XL := fun ε => bnd (a ε) fun x => bnd (xo lo ε) fun l => bnd (xo hi ε) fun h => match x with
  | .list xs => ret (cutL xs l h)
  | _ => stk
/-! ### calls -/
def aD (e : XE) : XA := fun ε => bnd (e ε) fun d => ret (.sh d)
def aR (i : Nat) : XA := fun ε => match ε[i]? with
  | some (.rf n) => ret (.rf n)
  | _ => stk
/-- the script -/
def aS (i : Nat) : XA := fun ε => match ε[i]? with
  | some (.sc d) => ret (.sc d)
  | _ => stk
def iSc (i : Nat) : XL := fun ε => match ε[i]? with
  | some (.sc (.list xs)) => ret xs
  | _ => stk
def as0 : XAs := fun _ => ret []
def asC (a : XA) (r : XAs) : XAs := fun ε => bnd (a ε) fun x => bnd (r ε) fun xs => ret (x :: xs)
def aCall (F : Fn) (as : XAs) : XA := fun ε => bnd (as ε) fun vs => bnd (F vs) fun r => match r with
  | .sh d => ret (.sh d)
  | .rf n => ret (.rf n)
  | _ => stk
/-- a new list that a def hands back -/
def lCall (F : Fn) (as : XAs) : XL := fun ε => bnd (as ε) fun vs => bnd (F vs) fun r => match r with
  | .ow (.list ds) => ret ds
  | _ => stk
def xCall (F : Fn) (as : XAs) : XE := fun ε => bnd (as ε) fun vs => bnd (F vs) fun r => match r with
  | .sh d => ret d
  | .lk (.tuple ds) => ret (.tuple ds)
  | _ => stk
/-- a new list laid in the store -/
def aNew (l : XL) : XA := fun ε => bnd (l ε) fun ds S => some (.ok (.rf S.length) (S ++ [.list ds]))
/-- f(lambda: e) -/
def xLam (G : M D → M D) (e : XE) : XE := fun ε => G (e ε)
/-! ### statements -/
def sPass : XS := fun ε => ret (.nx ε)
def sSeq (a b : XS) : XS := fun ε => bnd (a ε) fun r => match r with
  | .nx ε1 => b ε1
  | r => ret r
def sExpr (e : XE) : XS := fun ε => bnd (e ε) fun _ => ret (.nx ε)
def sSet (i : Nat) (e : XE) : XS := fun ε => bnd (e ε) fun d => ret (.nx (ε.set i (.sh d)))
def sOwn (i : Nat) (l : XL) : XS := fun ε => if i < ε.length then bnd (l ε) fun ds => ret (.nx (ε.set i (.ow (.list ds)))) else stk
def sAsg (i : Nat) (a : XA) : XS := fun ε => bnd (a ε) fun v => ret (.nx (ε.set i v))
def sUnp (tg : Tg) (e : XE) : XS := fun ε => bnd (e ε) fun d => match bindT tg d ε with
  | some ε1 => ret (.nx ε1)
  | none => stk
def sIf (c : XT) (a b : XS) : XS := fun ε => bnd (c ε) fun t => if t then a ε else b ε
def forGo (tg : Tg) (body : XS) : List D → Ev → M SR
  | [], ε => ret (.nx ε)
  | x :: r, ε => match bindT tg x ε with
    | none => stk
    | some ε1 => bnd (body ε1) fun q => match q with
      | .nx ε2 => forGo tg body r ε2
      | .ct ε2 => forGo tg body r ε2
      | .bk ε2 => ret (.nx ε2)
      | .rt v => ret (.rt v)
def sFor (it : XL) (tg : Tg) (body : XS) : XS := fun ε => bnd (it ε) fun items => forGo tg body items ε
def whGo (c : XT) (body : XS) : Nat → Ev → M SR
  | 0, _ => stk
  | n + 1, ε => bnd (c ε) fun t => if t then bnd (body ε) fun q => match q with
      | .nx ε2 => whGo c body n ε2
      | .ct ε2 => whGo c body n ε2
      | .bk ε2 => ret (.nx ε2)
      | .rt v => ret (.rt v)
    else ret (.nx ε)
def fuel : Nat := 18446744073709551616
def sWhile (c : XT) (body : XS) : XS := whGo c body fuel
def sRet (e : XE) : XS := fun ε => bnd (e ε) fun d => ret (.rt (.sh d))
/-- a new tuple is handed back -/
def sRetT (l : XL) : XS := fun ε => bnd (l ε) fun ds => if ds.length ≤ big then ret (.rt (.lk (.tuple ds))) else stk
def sRetA (a : XA) : XS := fun ε => bnd (a ε) fun v => match v with
  | .sh d => ret (.rt (.sh d))
  | .rf n => ret (.rt (.rf n))
  | _ => stk
/-- a list of its own is handed back -/
def sRetO (i : Nat) : XS := fun ε => match ε[i]? with
  | some (.ow d) => ret (.rt (.ow d))
  | _ => stk
def sRaise (e : Ex) : XS := fun _ => rse e
def sBreak : XS := fun ε => ret (.bk ε)
def sCont : XS := fun ε => ret (.ct ε)
/-- a list of one's own becomes one that nobody changes -/
def sFrz (i : Nat) (b : XS) : XS := fun ε => match ε[i]? with
  | some (.ow d) => b (ε.set i (.sh d))
  | _ => stk
def mutL (ε : Ev) (i : Nat) : Bool := match ε[i]? with
  | some (.ow (.list _)) => true
  | some (.rf _) => true
  | _ => false
/-- what stands in slot i, a list of one's own or of the store, is changed -/
def chg (i : Nat) (g : List D → Option (List D)) : XS := fun ε => match ε[i]? with
  | some (.ow (.list xs)) => match g xs with
    | some ys => ret (.nx (ε.set i (.ow (.list ys))))
    | none => stk
  | some (.rf n) => fun S => match S[n]? with
    | some (.list xs) => match g xs with
      | some ys => some (.ok (.nx ε) (S.set n (.list ys)))
      | none => none
    | _ => none
  | _ => stk
def gApp (d : D) (xs : List D) : Option (List D) := if xs.length < big then some (xs ++ [d]) else none
def gPut (k d : D) (xs : List D) : Option (List D) := match k with
  | .int j => match pyIx xs.length j with
    | some q => some (xs.set q d)
    | none => none
  | _ => none
def gExt (d : D) (xs : List D) : Option (List D) := match d with
  | .list ys => if xs.length + ys.length ≤ big then some (xs ++ ys) else none
  | .tuple ys => if xs.length + ys.length ≤ big then some (xs ++ ys) else none
  | _ => none
/-- x.append(e) -/
def sApp (i : Nat) (e : XE) : XS := fun ε => if mutL ε i then bnd (e ε) fun d => chg i (gApp d) ε else stk
def sExt (i : Nat) (e : XE) : XS := fun ε => if mutL ε i then bnd (e ε) fun d => chg i (gExt d) ε else stk
/-- x[k] = e -/
def sPut (i : Nat) (k e : XE) : XS := fun ε => bnd (e ε) fun d => if mutL ε i then bnd (k ε) fun kd => chg i (gPut kd d) ε else stk
/-- x op= e at a name -/
def sAug (i : Nat) (g : D → D → Option D) (e : XE) : XS := fun ε => match ε[i]? with
  | some (.sh x) => bnd (e ε) fun y => bnd (lft (g x y)) fun z => ret (.nx (ε.set i (.sh z)))
  | _ => stk
/-- a, b = e, f: each piece a value or a new list of one's own -/
inductive Pc where | v (e : XE) | n (l : XL)
def pcE (p : Pc) : Ev → M Sl := fun ε => match p with
  | .v e => bnd (e ε) fun d => ret (.sh d)
  | .n l => bnd (l ε) fun ds => ret (.ow (.list ds))
def pcQ (p : Pc) (m : M Sl) : M Sl := match p with
  | .v _ => m
  | .n _ => qt m
def sPar2 (i j : Nat) (p q : Pc) : XS := fun ε => if i < ε.length ∧ j < ε.length then bnd (pcE p ε) fun a => bnd (pcQ p (pcE q ε)) fun b => ret (.nx ((ε.set i a).set j b)) else stk
def sPar3 (i j k : Nat) (p q r : XE) : XS := fun ε => bnd (p ε) fun a => bnd (q ε) fun b => bnd (r ε) fun c => ret (.nx (((ε.set i (.sh a)).set j (.sh b)).set k (.sh c)))
/-! ### defs -/
def isArg : Sl → Bool
  | .sh _ => true
  | .rf _ => true
  | .sc _ => true
  | _ => false
def fnEnd (S : List D) : Option (Res SR) → Option (Res Sl)
  | some (.ex e S1) => some (.ex e (S1.take S.length))
  | some (.ok (.nx _) S1) => some (.ok (.sh .none) (S1.take S.length))
  | some (.ok (.rt (.sh d)) S1) => some (.ok (.sh d) (S1.take S.length))
  | some (.ok (.rt (.ow d)) S1) => some (.ok (.ow d) (S1.take S.length))
  | some (.ok (.rt (.lk d)) S1) => some (.ok (.lk d) (S1.take S.length))
  | some (.ok (.rt (.rf n)) S1) => some (.ok (.rf n) (if n < S.length then S1.take S.length else S1))
  | _ => none
def mkFn (np ns : Nat) (body : XS) : Fn := fun args S => if args.length = np && args.all isArg then fnEnd S (body (args ++ List.replicate (ns - np) .un) S) else none
/-- try: call() / except E: return c .. / return okv -/
def refusal (okv : D) (hs : List (Ex × D)) (act : M D) : M D := fun S => match act S with
  | none => none
  | some (.ok _ S1) => some (.ok okv S1)
  | some (.ex e S1) => match hs.lookup e with
    | some d => some (.ok d S1)
    | none => none
end Tn
end

section
set_option Elab.async false
set_option linter.all false
set_option maxRecDepth 100000
set_option maxHeartbeats 1000000
namespace Tn
open PySem PySem.Spec PyProof.Rows L2
/-! ### the state over the abstract heap -/
/-- the tables of code objects that this run has, and the names that they tell -/
class TB where
  tb : List (Addr × Str)
variable [TB]
structure Wd where
  io : List Addr
  om : Nat → Option Addr
  zt : Addr → Prop
/-- what no value holds besides -/
abbrev Wd.z (w : Wd) : Addr → Prop := w.zt
/-- no table -/
def Nt (o : HO) : Prop := ∀ ps, o ≠ .tbl ps
theorem nt_lst {xs : List V} : Nt (.lst xs) := fun _ h => by cases h
theorem nt_tup {xs : List V} : Nt (.tup xs) := fun _ h => by cases h
theorem nt_frz {o : Obj} {xs : List V} : Nt (.frz o (.lst xs)) := fun _ h => by cases h
theorem nt_code {c : Addr} {q : Str} : Nt (LamX.CodeO c q) := fun _ h => by unfold LamX.CodeO at h; cases h
/-- held, and no table -/
def Kn (H : Hp) (a : Addr) : Prop := ∃ o, H a = some o ∧ Nt o
theorem Kn.ne {H : Hp} {a : Addr} (h : Kn H a) : H a ≠ none := by obtain ⟨o, e, _⟩ := h; rw [e]; simp
theorem Kn.non {H : Hp} {a : Addr} (h : H a = none) : ¬ Kn H a := fun k => k.ne h
theorem Kn.lst {H : Hp} {a : Addr} {xs : List V} (h : H a = some (.lst xs)) : Kn H a := ⟨_, h, nt_lst⟩
theorem Kn.tup {H : Hp} {a : Addr} {xs : List V} (h : H a = some (.tup xs)) : Kn H a := ⟨_, h, nt_tup⟩
/-- what may be changed here -/
def Wd.tc (w : Wd) (a : Addr) : Prop := a ∈ w.io ∨ ∃ i, w.om i = some a
/-- what no value may hold -/
def Wd.mu (w : Wd) (a : Addr) : Prop := w.tc a ∨ w.z a
abbrev Wd.at (w : Wd) (io : List Addr) : Wd := { w with io := io }
abbrev NoH : Hp := fun _ => none
mutual
inductive Dv (K : PySem.W.Frag) (H : Hp) (mu : Addr → Prop) : V → D → Prop
  | non : Dv K H mu .non .none
  | bl (b : Bool) : Dv K H mu (.bl b) (.bool b)
  | int (i : Int) : Dv K H mu (.int i) (.int i)
  | str (x : Str) (h : PyData.strOk x = true) : Dv K H mu (.str x) (.str x)
  | lst {a : Addr} {xs : List V} {ds : List D} : H a = some (.lst xs) → ¬ mu a → Dvs K H mu xs ds → Dv K H mu (.ref a) (.list ds)
  | tup {a : Addr} {xs : List V} {ds : List D} : H a = some (.tup xs) → ¬ mu a → Dvs K H mu xs ds → Dv K H mu (.ref a) (.tuple ds)
  | tupK {a : Addr} {xs : List V} {ds : List D} : SqT K NoH a xs → Dvs K H mu xs ds → Dv K H mu (.ref a) (.tuple ds)
inductive Dvs (K : PySem.W.Frag) (H : Hp) (mu : Addr → Prop) : List V → List D → Prop
  | nil : Dvs K H mu [] []
  | cons {v : V} {vs : List V} {d : D} {ds : List D} : Dv K H mu v d → Dvs K H mu vs ds → Dvs K H mu (v :: vs) (d :: ds)
end
section
variable {K : PySem.W.Frag} {H H' : Hp} {mu mu' : Addr → Prop}
theorem SqL.ofK {a : Addr} {xs : List V} (h : SqL K NoH a xs) : SqL K H a xs := by
  rcases h with h | h
  · rcases h with h | ⟨o, h⟩ <;> cases h
  · exact .inr h
theorem SqT.ofK {a : Addr} {xs : List V} (h : SqT K NoH a xs) : SqT K H a xs := by
  rcases h with h | h
  · rcases h with h | ⟨o, h⟩ <;> cases h
  · exact .inr h
mutual
theorem Dv.mono (k : ∀ a o, ¬ mu a → H a = some o → Nt o → H' a = some o) (m : ∀ a, Kn H a → mu' a → mu a) : ∀ (d : D) (v : V), Dv K H mu v d → Dv K H' mu' v d
  | .none, _, h => by cases h; exact .non
  | .bool _, _, h => by cases h; exact .bl _
  | .int _, _, h => by cases h; exact .int _
  | .str _, _, h => by cases h with | str x hx => exact .str _ hx
  | .list ds, _, h => by
    cases h with
    | lst h1 h2 h3 => exact .lst (k _ _ h2 h1 nt_lst) (fun z => h2 (m _ (.lst h1) z)) (Dvs.mono k m ds _ h3)
  | .tuple ds, _, h => by
    cases h with
    | tup h1 h2 h3 => exact .tup (k _ _ h2 h1 nt_tup) (fun z => h2 (m _ (.tup h1) z)) (Dvs.mono k m ds _ h3)
    | tupK h1 h3 => exact .tupK h1 (Dvs.mono k m ds _ h3)
  | .dict _, _, h => by cases h
theorem Dvs.mono (k : ∀ a o, ¬ mu a → H a = some o → Nt o → H' a = some o) (m : ∀ a, Kn H a → mu' a → mu a) : ∀ (ds : List D) (vs : List V), Dvs K H mu vs ds → Dvs K H' mu' vs ds
  | [], _, h => by cases h; exact .nil
  | d :: ds, _, h => by
    cases h with
    | cons h1 h2 => exact .cons (Dv.mono k m d _ h1) (Dvs.mono k m ds _ h2)
end
mutual
theorem Dv.dp : ∀ (d : D) (v : V), Dv K H mu v d → Dp K H v d
  | .none, _, h => by cases h; exact .non
  | .bool _, _, h => by cases h; exact .bl _
  | .int _, _, h => by cases h; exact .int _
  | .str _, _, h => by cases h; exact .str _
  | .list ds, _, h => by
    cases h with
    | lst h1 h2 h3 => exact .lst (.of h1) (Dvs.dp ds _ h3)
  | .tuple ds, _, h => by
    cases h with
    | tup h1 h2 h3 => exact .tup (.of h1) (Dvs.dp ds _ h3)
    | tupK h1 h3 => exact .tup (SqT.ofK h1) (Dvs.dp ds _ h3)
  | .dict _, _, h => by cases h
theorem Dvs.dp : ∀ (ds : List D) (vs : List V), Dvs K H mu vs ds → DpAll K H vs ds
  | [], _, h => by cases h; exact .nil
  | d :: ds, _, h => by
    cases h with
    | cons h1 h2 => exact .cons (Dv.dp d _ h1) (Dvs.dp ds _ h2)
end
mutual
theorem Dv.lay : ∀ (d : D) (v : V), Dv K H mu v d → d.canLay0 = true
  | .none, _, _ => rfl
  | .bool _, _, _ => rfl
  | .int _, _, _ => rfl
  | .str _, _, h => by cases h with | str x hx => exact hx
  | .list ds, _, h => by
    cases h with
    | lst _ _ h3 => exact Dvs.lay ds _ h3
  | .tuple ds, _, h => by
    cases h with
    | tup _ _ h3 => exact Dvs.lay ds _ h3
    | tupK _ h3 => exact Dvs.lay ds _ h3
  | .dict _, _, h => by cases h
theorem Dvs.lay : ∀ (ds : List D) (vs : List V), Dvs K H mu vs ds → PyData.canLayAll0 ds = true
  | [], _, _ => rfl
  | d :: ds, _, h => by
    cases h with
    | cons h1 h2 => simp only [PyData.canLayAll0, Dv.lay d _ h1, Dvs.lay ds _ h2, Bool.and_self]
end
theorem Dvs.len {vs : List V} {ds : List D} (h : Dvs K H mu vs ds) : vs.length = ds.length := by
  induction ds generalizing vs with
  | nil => cases h; rfl
  | cons d ds ih => cases h with | cons _ h2 => simp only [List.length_cons, ih h2]
theorem Dvs.get {vs : List V} {ds : List D} {i : Nat} {d : D} (h : Dvs K H mu vs ds) (e : ds[i]? = some d) : ∃ v, vs[i]? = some v ∧ Dv K H mu v d := by
  induction ds generalizing vs i with
  | nil => simp at e
  | cons d0 ds ih =>
    cases h with
    | cons h1 h2 =>
      cases i with
      | zero => simp at e; subst e; exact ⟨_, rfl, h1⟩
      | succ i => simpa using ih h2 (by simpa using e)
theorem Dvs.getv {vs : List V} {ds : List D} {i : Nat} {v : V} (h : Dvs K H mu vs ds) (e : vs[i]? = some v) : ∃ d, ds[i]? = some d ∧ Dv K H mu v d := by
  have hl := h.len
  have hi : i < ds.length := by rw [← hl]; exact (List.getElem?_eq_some_iff.mp e).1
  obtain ⟨v', e', h'⟩ := h.get (List.getElem?_eq_getElem hi)
  rw [e] at e'; cases e'
  exact ⟨_, List.getElem?_eq_getElem hi, h'⟩
theorem Dvs.app {vs us : List V} {ds es : List D} (h : Dvs K H mu vs ds) (g : Dvs K H mu us es) : Dvs K H mu (vs ++ us) (ds ++ es) := by
  induction ds generalizing vs with
  | nil => cases h; exact g
  | cons d ds ih => cases h with | cons h1 h2 => exact .cons h1 (ih h2)
theorem Dvs.take {vs : List V} {ds : List D} (n : Nat) (h : Dvs K H mu vs ds) : Dvs K H mu (vs.take n) (ds.take n) := by
  induction ds generalizing vs n with
  | nil => cases h; cases n <;> exact .nil
  | cons d ds ih =>
    cases h with
    | cons h1 h2 =>
      cases n with
      | zero => exact .nil
      | succ n => exact .cons h1 (ih n h2)
theorem Dvs.drop {vs : List V} {ds : List D} (n : Nat) (h : Dvs K H mu vs ds) : Dvs K H mu (vs.drop n) (ds.drop n) := by
  induction ds generalizing vs n with
  | nil => cases h; cases n <;> exact .nil
  | cons d ds ih =>
    cases h with
    | cons h1 h2 =>
      cases n with
      | zero => exact .cons h1 h2
      | succ n => exact ih n h2
theorem Dvs.set {vs : List V} {ds : List D} {v : V} {d : D} (n : Nat) (h : Dvs K H mu vs ds) (g : Dv K H mu v d) : Dvs K H mu (vs.set n v) (ds.set n d) := by
  induction ds generalizing vs n with
  | nil => cases h; cases n <;> exact .nil
  | cons d0 ds ih =>
    cases h with
    | cons h1 h2 =>
      cases n with
      | zero => exact .cons g h2
      | succ n => exact .cons h1 (ih n h2)
theorem Dvs.rev {vs : List V} {ds : List D} (h : Dvs K H mu vs ds) : Dvs K H mu vs.reverse ds.reverse := by
  induction ds generalizing vs with
  | nil => cases h; exact .nil
  | cons d ds ih =>
    cases h with
    | cons h1 h2 =>
      rw [List.reverse_cons, List.reverse_cons]
      exact (ih h2).app (.cons h1 .nil)
end
/-! ### what stands at the places that may be changed -/
def Ob (K : PySem.W.Frag) (H : Hp) (mu : Addr → Prop) (a : Addr) (d : D) : Prop := ∃ xs ds, d = .list ds ∧ H a = some (.lst xs) ∧ Dvs K H mu xs ds
/-- a dict of one's own: keys are whole numbers or texts -/
def kD : L2.Key → D
  | .inl i => .int i
  | .inr s => .str s
def keyOk : L2.Key → Bool
  | .inl _ => true
  | .inr s => PyData.strOk s
inductive Kvs (K : PySem.W.Frag) (H : Hp) (mu : Addr → Prop) : List (L2.Key × V) → List (D × D) → Prop
  | nil : Kvs K H mu [] []
  | cons {k : L2.Key} {v : V} {d : D} {kvs : List (L2.Key × V)} {ds : List (D × D)} : keyOk k = true → Dv K H mu v d → Kvs K H mu kvs ds → Kvs K H mu ((k, v) :: kvs) ((kD k, d) :: ds)
theorem Kvs.mono {K : PySem.W.Frag} {H H' : Hp} {mu mu' : Addr → Prop} (k : ∀ a o, ¬ mu a → H a = some o → Nt o → H' a = some o) (m : ∀ a, Kn H a → mu' a → mu a) : ∀ {kvs : List (L2.Key × V)} {ds : List (D × D)}, Kvs K H mu kvs ds → Kvs K H' mu' kvs ds
  | _, _, .nil => .nil
  | _, _, .cons h1 h2 h3 => .cons h1 (Dv.mono k m _ _ h2) (Kvs.mono k m h3)
/-- keys that are tuples -/
inductive Kvt (K : PySem.W.Frag) (H : Hp) (mu : Addr → Prop) : List (List L2.Key × V) → List (D × D) → Prop
  | nil : Kvt K H mu [] []
  | cons {k : List L2.Key} {v : V} {d : D} {kvs : List (List L2.Key × V)} {ds : List (D × D)} : k.all keyOk = true → Dv K H mu v d → Kvt K H mu kvs ds → Kvt K H mu ((k, v) :: kvs) ((.tuple (k.map kD), d) :: ds)
theorem Kvt.mono {K : PySem.W.Frag} {H H' : Hp} {mu mu' : Addr → Prop} (k : ∀ a o, ¬ mu a → H a = some o → Nt o → H' a = some o) (m : ∀ a, Kn H a → mu' a → mu a) : ∀ {kvs : List (List L2.Key × V)} {ds : List (D × D)}, Kvt K H mu kvs ds → Kvt K H' mu' kvs ds
  | _, _, .nil => .nil
  | _, _, .cons h1 h2 h3 => .cons h1 (Dv.mono k m _ _ h2) (Kvt.mono k m h3)
def Obk (K : PySem.W.Frag) (H : Hp) (mu : Addr → Prop) (a : Addr) (d : D) : Prop := (∃ kvs ds, d = .dict ds ∧ H a = some (.dK kvs) ∧ Kvs K H mu kvs ds) ∨ ∃ kvs ds, d = .tuple [.dict ds] ∧ H a = some (.dT kvs) ∧ Kvt K H mu kvs ds
/-- a dict that nobody changes any more -/
def Lkd (K : PySem.W.Frag) (H : Hp) (mu : Addr → Prop) (o : Option V) (d : D) : Prop := ∃ a od, o = some (.ref a) ∧ ¬ mu a ∧ ((∃ kvs ds, d = .dict ds ∧ H a = some (.frz od (.dK kvs)) ∧ Kvs K H mu kvs ds) ∨ ∃ kvs ds, d = .tuple [.dict ds] ∧ H a = some (.frz od (.dT kvs)) ∧ Kvt K H mu kvs ds)
/-- what one's own places hold -/
def Mo (o : HO) : Prop := (∃ xs, o = .lst xs) ∨ (∃ kvs, o = .dK kvs) ∨ ∃ kvs, o = .dT kvs
theorem Mo.nt {o : HO} (h : Mo o) : Nt o := by
  rcases h with ⟨xs, rfl⟩ | ⟨kvs, rfl⟩ | ⟨kvs, rfl⟩
  · exact nt_lst
  · exact fun _ h => by cases h
  · exact fun _ h => by cases h
theorem mo_l {xs : List V} : Mo (.lst xs) := .inl ⟨xs, rfl⟩
theorem mo_k {kvs : List (L2.Key × V)} : Mo (.dK kvs) := .inr (.inl ⟨kvs, rfl⟩)
theorem mo_t {kvs : List (List L2.Key × V)} : Mo (.dT kvs) := .inr (.inr ⟨kvs, rfl⟩)
/-- held, and such a thing -/
def Kz (H : Hp) (a : Addr) : Prop := ∃ o, H a = some o ∧ Mo o
theorem Kz.kn {H : Hp} {a : Addr} (h : Kz H a) : Kn H a := by obtain ⟨o, e, m⟩ := h; exact ⟨o, e, m.nt⟩
theorem Kz.ne {H : Hp} {a : Addr} (h : Kz H a) : H a ≠ none := h.kn.ne
theorem nt_frK {o : Obj} {kvs : List (L2.Key × V)} : Nt (.frz o (.dK kvs)) := fun _ h => by cases h
theorem nt_frT {o : Obj} {kvs : List (List L2.Key × V)} : Nt (.frz o (.dT kvs)) := fun _ h => by cases h
/-- a list that the def was given from outside -/
def Sc (K : PySem.W.Frag) (H : Hp) (mu : Addr → Prop) (a : Addr) (xs : List V) : Prop := (¬ mu a ∧ ((H a = some (.lst xs)) ∨ ∃ o, H a = some (.frz o (.lst xs)))) ∨ SqL K NoH a xs
def Vl (K : PySem.W.Frag) (H : Hp) (mu : Addr → Prop) (io : List Addr) (o : Option V) (oa : Option Addr) : Sl → Prop
  | .un => oa = none
  | .sh d => oa = none ∧ ∃ v, o = some v ∧ Dv K H mu v d
  | .rf n => oa = none ∧ ∃ a, o = some (.ref a) ∧ io[n]? = some a
  | .ow d => ∃ a, oa = some a ∧ o = some (.ref a) ∧ Ob K H mu a d
  | .lk d => ∃ a, oa = some a ∧ o = some (.ref a) ∧ Obk K H mu a d
  | .sc d => oa = none ∧ ((∃ a xs ds, o = some (.ref a) ∧ Sc K H mu a xs ∧ d = .list ds ∧ Dvs K H mu xs ds) ∨ Lkd K H mu o d)
structure Rp (K : PySem.W.Frag) (w : Wd) (ε : Ev) (S : List D) (σ : L2.St) (H : Hp) : Prop where
  ls : w.io.length = S.length
  nd : w.io.Nodup
  oi : ∀ i j a, w.om i = some a → w.om j = some a → i = j
  od : ∀ i a, w.om i = some a → a ∉ w.io
  zd : ∀ a, w.z a → ¬ w.tc a
  zh : ∀ a, w.z a → Kz H a
  tt : LamX.Tabs TB.tb H
  st : ∀ (n : Nat) a d, w.io[n]? = some a → S[n]? = some d → Ob K H w.mu a d
  sl : ∀ (i : Nat) s, ε[i]? = some s → ∃ o, σ[i]? = some o ∧ Vl K H w.mu w.io o (w.om i) s
  so : ∀ (i : Nat), ε.length ≤ i → w.om i = none
  le : ε.length = σ.length
structure Ext (w : Wd) (H : Hp) (w' : Wd) (H' : Hp) : Prop where
  pre : w.io <+: w'.io
  zz : ∀ a, w'.z a → w.z a ∨ ¬ Kn H a
  kp : ∀ a o, ¬ w.tc a → H a = some o → Nt o → H' a = some o
  nw : ∀ a, w'.tc a → w.tc a ∨ ¬ Kn H a
  dm : ∀ a, Kn H a → Kn H' a
section
variable {K : PySem.W.Frag} {w w' w'' : Wd} {ε : Ev} {S : List D} {σ : L2.St} {H H' H'' : Hp} {a : Addr} {d : D} {mu mu' : Addr → Prop}
theorem Ob.mono (h : Ob K H mu a d) (k : ∀ a o, ¬ mu a → H a = some o → Nt o → H' a = some o) (m : ∀ a, Kn H a → mu' a → mu a) (e : H' a = H a) : Ob K H' mu' a d := by
  obtain ⟨xs, ds, h1, h2, h3⟩ := h
  exact ⟨xs, ds, h1, e.trans h2, Dvs.mono k m ds _ h3⟩
theorem Ob.kn (h : Ob K H mu a d) : Kn H a := by
  obtain ⟨_, _, _, h2, _⟩ := h
  exact .lst h2
theorem Ob.li (h : Ob K H mu a d) : ∃ xs, H a = some (.lst xs) := by
  obtain ⟨xs, _, _, h2, _⟩ := h
  exact ⟨xs, h2⟩
theorem Ob.mo (h : Ob K H mu a d) : ∃ o, H a = some o ∧ Mo o := by
  obtain ⟨xs, _, _, h2, _⟩ := h
  exact ⟨_, h2, mo_l⟩
theorem Obk.mo (h : Obk K H mu a d) : ∃ o, H a = some o ∧ Mo o := by
  rcases h with ⟨kvs, _, _, h2, _⟩ | ⟨kvs, _, _, h2, _⟩
  · exact ⟨_, h2, mo_k⟩
  · exact ⟨_, h2, mo_t⟩
theorem Obk.mono (h : Obk K H mu a d) (k : ∀ a o, ¬ mu a → H a = some o → Nt o → H' a = some o) (m : ∀ a, Kn H a → mu' a → mu a) (e : H' a = H a) : Obk K H' mu' a d := by
  rcases h with ⟨kvs, ds, h1, h2, h3⟩ | ⟨kvs, ds, h1, h2, h3⟩
  · exact .inl ⟨kvs, ds, h1, e.trans h2, h3.mono k m⟩
  · exact .inr ⟨kvs, ds, h1, e.trans h2, h3.mono k m⟩
theorem Rp.tcl (r : Rp K w ε S σ H) (h : w.tc a) : ∃ o, H a = some o ∧ Mo o := by
  rcases h with h | ⟨i, h⟩
  · obtain ⟨n, hn⟩ := List.getElem?_of_mem h
    have hl : n < S.length := by rw [← r.ls]; exact (List.getElem?_eq_some_iff.mp hn).1
    exact (r.st n a _ hn (List.getElem?_eq_getElem hl)).mo
  · have hi : i < ε.length := by
      refine Nat.lt_of_not_le fun z => ?_
      rw [r.so i z] at h; cases h
    obtain ⟨o, _, v⟩ := r.sl i _ (List.getElem?_eq_getElem hi)
    rw [h] at v
    cases e : ε[i] with
    | un => rw [e] at v; cases (show some a = none from v)
    | sh d => rw [e] at v; cases v.1
    | rf n => rw [e] at v; cases v.1
    | sc d => rw [e] at v; cases v.1
    | ow d => rw [e] at v; obtain ⟨b, e1, _, ob⟩ := v; cases e1; exact ob.mo
    | lk d => rw [e] at v; obtain ⟨b, e1, _, ob⟩ := v; cases e1; exact ob.mo
theorem Rp.tch (r : Rp K w ε S σ H) (h : w.tc a) : Kn H a := by
  obtain ⟨o, e, m⟩ := r.tcl h
  exact ⟨o, e, m.nt⟩
theorem Rp.muk (r : Rp K w ε S σ H) (h : w.mu a) : Kn H a := by
  rcases h with h | h
  · exact r.tch h
  · exact (r.zh a h).kn
theorem Rp.muz (r : Rp K w ε S σ H) (h : w.mu a) : Kz H a := by
  rcases h with h | h
  · exact r.tcl h
  · exact r.zh a h
theorem Rp.muh (r : Rp K w ε S σ H) (h : w.mu a) : H a ≠ none := (r.muk h).ne
theorem Rp.new (r : Rp K w ε S σ H) (h : H a = none) : ¬ w.mu a := fun z => r.muh z h
theorem Ext.refl (w : Wd) (H : Hp) : Ext w H w H := ⟨List.prefix_rfl, fun _ h => .inl h, fun _ _ _ h _ => h, fun _ h => .inl h, fun _ h => h⟩
theorem Ext.trans (a : Ext w H w' H') (b : Ext w' H' w'' H'') : Ext w H w'' H'' where
  pre := a.pre.trans b.pre
  zz := fun c t => by
    rcases b.zz c t with t | t
    · exact a.zz c t
    · exact .inr fun k => t (a.dm c k)
  kp := fun c o n h q => by
    have h1 := a.kp c o n h q
    refine b.kp c o (fun t => ?_) h1 q
    rcases a.nw c t with t | t
    · exact n t
    · exact t ⟨o, h, q⟩
  nw := fun c t => by
    rcases b.nw c t with t | t
    · exact a.nw c t
    · exact .inr fun k => t (a.dm c k)
  dm := fun c h => b.dm c (a.dm c h)
theorem Ext.keep (x : Ext w H w' H') : ∀ a o, ¬ w.mu a → H a = some o → Nt o → H' a = some o := fun a o n h q => x.kp a o (fun z => n (.inl z)) h q
theorem Ext.mus (x : Ext w H w' H') : ∀ a, Kn H a → w'.mu a → w.mu a := fun a h z => by
  rcases z with z | z
  · rcases x.nw a z with z | z
    · exact .inl z
    · exact absurd h z
  · rcases x.zz a z with z | z
    · exact .inr z
    · exact absurd h z
/-- what no value holds may change, too -/
structure Exw (w : Wd) (H : Hp) (w' : Wd) (H' : Hp) : Prop where
  keep : ∀ a o, ¬ w.mu a → H a = some o → Nt o → H' a = some o
  mus : ∀ a, Kn H a → w'.mu a → w.mu a
theorem Ext.xw (x : Ext w H w' H') : Exw w H w' H' := ⟨x.keep, x.mus⟩
theorem Dv.exw {v : V} {d : D} (h : Dv K H w.mu v d) (x : Exw w H w' H') : Dv K H' w'.mu v d := Dv.mono x.keep x.mus d v h
theorem Dvs.exw {v : List V} {d : List D} (h : Dvs K H w.mu v d) (x : Exw w H w' H') : Dvs K H' w'.mu v d := Dvs.mono x.keep x.mus d v h
theorem Dv.ext {v : V} {d : D} (h : Dv K H w.mu v d) (x : Ext w H w' H') : Dv K H' w'.mu v d := Dv.mono x.keep x.mus d v h
theorem Dvs.ext {v : List V} {d : List D} (h : Dvs K H w.mu v d) (x : Ext w H w' H') : Dvs K H' w'.mu v d := Dvs.mono x.keep x.mus d v h
/-- an expression's: the store alone may change and grow -/
structure Exx (w : Wd) (H : Hp) (io' : List Addr) (H' : Hp) : Prop where
  pre : w.io <+: io'
  kw : ∀ a o, a ∉ w.io → H a = some o → Nt o → H' a = some o
  ni : ∀ a, a ∈ io' → a ∈ w.io ∨ ¬ Kn H a
  dm : ∀ a, Kn H a → Kn H' a
theorem Exx.ext {io' : List Addr} (x : Exx w H io' H') : Ext w H (w.at io') H' where
  pre := x.pre
  zz := fun _ h => .inl h
  kp := fun a o n h q => x.kw a o (fun z => n (.inl z)) h q
  nw := fun a t => by
    rcases t with t | t
    · rcases x.ni a t with t | t
      · exact .inl (.inl t)
      · exact .inr t
    · exact .inl (.inr t)
  dm := x.dm
theorem Exx.refl (w : Wd) (H : Hp) : Exx w H w.io H := ⟨List.prefix_rfl, fun _ _ _ h _ => h, fun _ h => .inl h, fun _ h => h⟩
theorem Exx.trans {io' io'' : List Addr} (a : Exx w H io' H') (b : Exx (w.at io') H' io'' H'') : Exx w H io'' H'' where
  pre := a.pre.trans b.pre
  kw := fun c o n h q => by
    have h1 := a.kw c o n h q
    refine b.kw c o (fun t => ?_) h1 q
    rcases a.ni c t with t | t
    · exact n t
    · exact t ⟨o, h, q⟩
  ni := fun c t => by
    rcases b.ni c t with t | t
    · exact a.ni c t
    · exact .inr fun k => t (a.dm c k)
  dm := fun c h => b.dm c (a.dm c h)
theorem Dv.exx {v : V} {d : D} {io' : List Addr} (h : Dv K H w.mu v d) (x : Exx w H io' H') : Dv K H' (w.at io').mu v d := h.ext x.ext
theorem Dvs.exx {v : List V} {d : List D} {io' : List Addr} (h : Dvs K H w.mu v d) (x : Exx w H io' H') : Dvs K H' (w.at io').mu v d := h.ext x.ext
/-- only new things -/
def Grow (H H' : Hp) : Prop := ∀ a o, H a = some o → H' a = some o
theorem Grow.refl (H : Hp) : Grow H H := fun _ _ h => h
theorem Grow.upd {o : HO} (h : H a = none) : Grow H (upd H a o) := fun b u q => by rw [upd_ne (ne_of_none q h)]; exact q
theorem Grow.trans (a : Grow H H') (b : Grow H' H'') : Grow H H'' := fun c o h => b c o (a c o h)
theorem Grow.eq (g : Grow H H') (h : H a ≠ none) : H' a = H a := by
  cases e : H a with
  | none => exact absurd e h
  | some o => exact g a o e
theorem Grow.kn (g : Grow H H') (h : Kn H a) : Kn H' a := by
  obtain ⟨o, e, n⟩ := h
  exact ⟨o, g a o e, n⟩
theorem Kz.grow (h : Kz H a) (g : Grow H H') : Kz H' a := by
  obtain ⟨o, e, n⟩ := h
  exact ⟨o, g a o e, n⟩
theorem Grow.ext (g : Grow H H') : Ext w H w H' := ⟨List.prefix_rfl, fun _ h => .inl h, fun a o _ h _ => g a o h, fun _ h => .inl h, fun a h => g.kn h⟩
theorem Grow.exx (g : Grow H H') : Exx w H w.io H' := ⟨List.prefix_rfl, fun a o _ h _ => g a o h, fun _ h => .inl h, fun a h => g.kn h⟩
theorem Vl.mono {io : List Addr} {o : Option V} {oa : Option Addr} {s : Sl} (h : Vl K H mu io o oa s) (k : ∀ a o, ¬ mu a → H a = some o → Nt o → H' a = some o) (m : ∀ a, Kn H a → mu' a → mu a) (e : ∀ a, oa = some a → H' a = H a) : Vl K H' mu' io o oa s := by
  cases s with
  | un => exact h
  | sh d => obtain ⟨h1, v, h2, h3⟩ := h; exact ⟨h1, v, h2, Dv.mono k m d v h3⟩
  | rf n => exact h
  | ow d => obtain ⟨a, h1, h2, h3⟩ := h; exact ⟨a, h1, h2, h3.mono k m (e a h1)⟩
  | lk d => obtain ⟨a, h1, h2, h3⟩ := h; exact ⟨a, h1, h2, h3.mono k m (e a h1)⟩
  | sc d =>
    obtain ⟨h1, ⟨a, xs, ds, h2, h3, h4, h5⟩ | ⟨a, od, h2, n, ⟨kvs, ds, h3, h4, h5⟩ | ⟨kvs, ds, h3, h4, h5⟩⟩⟩ := h
    · refine ⟨h1, .inl ⟨a, xs, ds, h2, ?_, h4, Dvs.mono k m ds xs h5⟩⟩
      rcases h3 with ⟨n, q | ⟨u, q⟩⟩ | q
      · exact .inl ⟨fun z => n (m _ (.lst q) z), .inl (k _ _ n q nt_lst)⟩
      · exact .inl ⟨fun z => n (m _ ⟨_, q, nt_frz⟩ z), .inr ⟨u, k _ _ n q nt_frz⟩⟩
      · exact .inr q
    · exact ⟨h1, .inr ⟨a, od, h2, fun z => n (m _ ⟨_, h4, nt_frK⟩ z), .inl ⟨kvs, ds, h3, k _ _ n h4 nt_frK, h5.mono k m⟩⟩⟩
    · exact ⟨h1, .inr ⟨a, od, h2, fun z => n (m _ ⟨_, h4, nt_frT⟩ z), .inr ⟨kvs, ds, h3, k _ _ n h4 nt_frT, h5.mono k m⟩⟩⟩
theorem Vl.pre {io io' : List Addr} {o : Option V} {oa : Option Addr} {s : Sl} (h : Vl K H mu io o oa s) (p : io <+: io') : Vl K H mu io' o oa s := by
  cases s with
  | un => exact h
  | sh d => exact h
  | rf n =>
    obtain ⟨h1, a, h2, h3⟩ := h
    obtain ⟨t, rfl⟩ := p
    exact ⟨h1, a, h2, by rw [List.getElem?_append_left (List.getElem?_eq_some_iff.mp h3).1]; exact h3⟩
  | ow d => exact h
  | lk d => exact h
  | sc d => exact h
/-- the state is the same over a grown heap -/
theorem Rp.grow (r : Rp K w ε S σ H) (g : Grow H H') : Rp K w ε S σ H' where
  ls := r.ls
  nd := r.nd
  oi := r.oi
  od := r.od
  zd := r.zd
  zh := fun a h => (r.zh a h).grow g
  tt := r.tt.ext g
  st := fun n a d h1 h2 => (r.st n a d h1 h2).mono (fun a o _ h _ => g a o h) (fun _ _ h => h) (g.eq (r.st n a d h1 h2).kn.ne)
  sl := fun i s h => by
    obtain ⟨o, h1, h2⟩ := r.sl i s h
    exact ⟨o, h1, h2.mono (fun a o _ h _ => g a o h) (fun _ _ h => h) fun a e => g.eq (r.tch (.inr ⟨i, e⟩)).ne⟩
  so := r.so
  le := r.le
end
/-! ### outcomes -/
def exN : Ex → Str
  | .bad => "BadTune"
  | .notso => "NotSo"
  | .much => "TooMuch"
def exV (mg : Str → Option Value) (e : Ex) : Value := (mg (exN e)).getD .none
def OutM {α : Type} (K : PySem.W.Frag) (mg : Str → Option Value) (W : WX) (w : Wd) (ε : Ev) (σ : L2.St) (H : Hp) (o : Option (Res α)) (P : α → List Addr → List D → Hp → Prop) : Prop :=
  match o with
  | none => False
  | some (.ok a S') => ∀ io' H', Rp K (w.at io') ε S' σ H' → Exx w H io' H' → P a io' S' H'
  | some (.ex e S') => ∀ io' H', Rp K (w.at io') ε S' σ H' → Exx w H io' H' → W (exV mg e) none σ H'
section
variable {α β : Type} {K : PySem.W.Frag} {mg : Str → Option Value} {W : WX} {w : Wd} {ε : Ev} {S : List D} {σ : L2.St} {H : Hp} {o : Option (Res α)} {P P' : α → List Addr → List D → Hp → Prop}
theorem OutM.imp (h : OutM K mg W w ε σ H o P) (f : ∀ a io' S' H', Rp K (w.at io') ε S' σ H' → Exx w H io' H' → P a io' S' H' → P' a io' S' H') : OutM K mg W w ε σ H o P' := by
  cases o with
  | none => exact h
  | some r =>
    cases r with
    | ok a S' => exact fun io' H' r x => f a io' S' H' r x (h io' H' r x)
    | ex e S' => exact h
theorem OutM.bnd {m : M α} {k : α → M β} {Q : β → List Addr → List D → Hp → Prop} (h : OutM K mg W w ε σ H (bnd m k S) Q) :
    OutM K mg W w ε σ H (m S) fun a io1 S1 H1 => OutM K mg W (w.at io1) ε σ H1 (k a S1) Q := by
  unfold Tn.bnd at h
  cases e : m S with
  | none => rw [e] at h; exact h
  | some r =>
    rw [e] at h
    cases r with
    | ex x S1 => exact h
    | ok a S1 =>
      intro io1 H1 r1 x1
      have h : OutM K mg W w ε σ H (k a S1) Q := h
      cases e2 : k a S1 with
      | none => rw [e2] at h; exact h
      | some r2 =>
        rw [e2] at h
        cases r2 with
        | ok b S2 => exact fun io2 H2 r2 x2 => h io2 H2 r2 (x1.trans x2)
        | ex x S2 => exact fun io2 H2 r2 x2 => h io2 H2 r2 (x1.trans x2)
theorem OutM.ret {a : α} (h : OutM K mg W w ε σ H (ret a S) P) (r : Rp K w ε S σ H) : P a w.io S H := h w.io H r (Exx.refl w H)
/-- over a grown heap -/
theorem OutM.grow {H' : Hp} (h : OutM K mg W w ε σ H o P) (g : Grow H H') : OutM K mg W w ε σ H' o P := by
  cases o with
  | none => exact h
  | some r =>
    cases r with
    | ok a S' => exact fun io2 H2 r2 x2 => h io2 H2 r2 ((g.exx (w := w)).trans x2)
    | ex x S' => exact fun io2 H2 r2 x2 => h io2 H2 r2 ((g.exx (w := w)).trans x2)
end
/-! ### the readings that the pieces give -/
/-- the slots of one's own are as they were where the store alone changed -/
theorem Rp.back {K : PySem.W.Frag} {w : Wd} {ε ε1 : Ev} {S S' : List D} {σ σ1 : L2.St} {H H' : Hp} {io' : List Addr} (r : Rp K w ε S σ H) (r' : Rp K (w.at io') ε1 S' σ1 H') (x : Exx w H io' H') : Rp K (w.at io') ε S' σ H' where
  ls := r'.ls
  nd := r'.nd
  oi := r.oi
  od := r'.od
  zd := r'.zd
  zh := r'.zh
  tt := r'.tt
  st := r'.st
  sl := fun i s h => by
    obtain ⟨o, h1, h2⟩ := r.sl i s h
    refine ⟨o, h1, (h2.pre x.pre).mono x.ext.keep x.ext.mus fun a e => ?_⟩
    obtain ⟨u, q, nu⟩ := r.tch (.inr ⟨i, e⟩)
    rw [q]
    exact x.kw a u (r.od i a e) q nu
  so := r.so
  le := r.le
def tE (K : PySem.W.Frag) (mg : Str → Option Value) (W : WX) (f : XE) : TE := fun σ H Q =>
  ∃ w ε S, Rp K w ε S σ H ∧ OutM K mg W w ε σ H (f ε S) fun d io' _ H' => ∀ v, Dv K H' (w.at io').mu v d → Q v H'
def tTs (K : PySem.W.Frag) (mg : Str → Option Value) (W : WX) (f : XT) : TT := fun σ H Q =>
  ∃ w ε S, Rp K w ε S σ H ∧ OutM K mg W w ε σ H (f ε S) fun b _ _ H' => Q b H'
def tEs (K : PySem.W.Frag) (mg : Str → Option Value) (W : WX) (f : XL) : TA := fun σ H Q =>
  ∃ w ε S, Rp K w ε S σ H ∧ OutM K mg W w ε σ H (f ε S) fun ds io' _ H' => ∀ vs, Dvs K H' (w.at io').mu vs ds → Q vs H'
structure DE (X : Cx) (W : WX) (e : Expr) (f : XE) : Prop where
  pe : PE X e (tE X.K X.mg W f)
structure DT (X : Cx) (W : WX) (e : Expr) (f : XT) : Prop where
  pt : PT X e (tTs X.K X.mg W f)
structure DEs (X : Cx) (W : WX) (es : List Expr) (f : XL) : Prop where
  pa : PA X es (tEs X.K X.mg W f)
theorem _root_.L2.PE.weak {X : Cx} {e : Expr} {t t' : TE} (h : PE X e t) (k : ∀ σ H Q, t' σ H Q → t σ H Q) : PE X e t' := ⟨fun pins s σ H Q I q => h.run pins s σ H Q I (k σ H Q q)⟩
theorem _root_.L2.PT.weak {X : Cx} {e : Expr} {t t' : TT} (h : PT X e t) (k : ∀ σ H Q, t' σ H Q → t σ H Q) : PT X e t' := ⟨fun pins s σ H Q I q => h.run pins s σ H Q I (k σ H Q q)⟩
theorem _root_.L2.PA.weak {X : Cx} {es : List Expr} {t t' : TA} (h : PA X es t) (k : ∀ σ H Q, t' σ H Q → t σ H Q) : PA X es t' := ⟨fun pos pins s σ H Q I q => h.run pos pins s σ H Q I (k σ H Q q)⟩
theorem _root_.L2.PS.weak {X : Cx} {e : Stmt} {t t' : TS} (h : PS X e t) (k : ∀ D σ H, t' D σ H → t D σ H) : PS X e t' := ⟨fun pins s σ H D I q => h.run pins s σ H D I (k D σ H q)⟩
theorem _root_.L2.PSs.weak {X : Cx} {e : List Stmt} {t t' : TS} (h : PSs X e t) (k : ∀ D σ H, t' D σ H → t D σ H) : PSs X e t' := ⟨fun pins s σ H D I q => h.run pins s σ H D I (k D σ H q)⟩
end Tn
end

section
set_option Elab.async false
set_option linter.all false
set_option maxRecDepth 100000
set_option maxHeartbeats 4000000
/-! a tuple as often as a number tells -/
namespace Tn
open PySem PySem.Spec PyProof.Rows L2
theorem tuple_mulS (l : Addr) (items : Array Value) (n : Nat) (dd : Option Addr) (sl : Array (Option Value)) (x : Int) (u : Tok) (c0 : (decide (x < -(2 ^ 63)) || decide (x ≥ 2 ^ 63)) = false) (c1 : (items.isEmpty || x == 1) = true) :
    Meets (Builtin.«tuple.__mul__» ⟨[.ref l, .int x u], []⟩) (fun _ R s => s.heap.get? l = some { cls := .type "tuple", dict := dd, data := .seq items n, slots := sl } ∧ R (.ok (.ret (Value.ref l))) s) :=
  .of_wp fun prog w A R s h => by
    obtain ⟨hp, g, d, tk, os⟩ := s
    obtain ⟨hl, h⟩ := h
    have f1 := AutoSeq1.idx_int
    wp_walk using wpAny_loadPart' hl
    repeat (first
      | (refine wpAny_ite_false (decide_eq_false (by rw [c0]; exact Bool.false_ne_true)) ?_; wp_walk using wpAny_loadPart' hl)
      | (refine wpAny_ite_true (decide_eq_true (by rw [c1])) ?_; wp_walk using wpAny_loadPart' hl))
    exact ⟨_, rfl, h⟩
theorem tuple_mulZ (l : Addr) (items : Array Value) (n : Nat) (dd : Option Addr) (sl : Array (Option Value)) (x : Int) (u : Tok) (c0 : (decide (x < -(2 ^ 63)) || decide (x ≥ 2 ^ 63)) = false) (c1 : (items.isEmpty || x == 1) = false) (c2 : (decide (x ≤ 0) || items.isEmpty) = true) :
    Meets (Builtin.«tuple.__mul__» ⟨[.ref l, .int x u], []⟩) (fun _ R s => s.heap.get? l = some { cls := .type "tuple", dict := dd, data := .seq items n, slots := sl } ∧
      R (.ok (.ret (Value.ref s.heap.objs.size))) { s with heap := s.heap.push { cls := Value.type "tuple", data := Data.seq #[] }, toks := s.toks }) :=
  .of_wp fun prog w A R s h => by
    obtain ⟨hp, g, d, tk, os⟩ := s
    obtain ⟨hl, h⟩ := h
    have f1 := AutoSeq1.idx_int
    wp_walk using wpAny_loadPart' hl
    repeat (first
      | (refine wpAny_ite_false (decide_eq_false (by rw [c0]; exact Bool.false_ne_true)) ?_; wp_walk using wpAny_loadPart' hl)
      | (refine wpAny_ite_false (decide_eq_false (by rw [c1]; exact Bool.false_ne_true)) ?_; wp_walk using wpAny_loadPart' hl)
      | (refine wpAny_ite_true (decide_eq_true (by rw [c2])) ?_; wp_walk using wpAny_loadPart' hl)
      | (refine wpAny_ite_false (decide_eq_false (Nat.not_lt.mpr (Nat.zero_le _))) ?_; wp_walk using wpAny_loadPart' hl))
    exact ⟨_, rfl, h⟩
def rRepA (K : PySem.W.Frag) : R2 := fun x y H Q => ∃ l k xs, x = .ref l ∧ y = .int k ∧ SqT K H l xs ∧ k ≤ 1000 ∧ -(2 ^ 62) < k ∧ xs.length ≤ 1000 ∧ ((xs = [] ∨ k = 1) → Q (.ref l) H) ∧ ∀ p, H p = none → Q (.ref p) (upd H p (.tup (List.replicate k.toNat xs).flatten))
theorem op_repA {X : Cx} : OpR X (binaryOp .Mult) (rRepA X.K) := by
  intro pins s σ H x y v u Q I rx ry h
  obtain ⟨l, k, xs, rfl, rfl, hT, h2, h1, hz, q1, q⟩ := h
  by_cases hb : xs ≠ [] ∧ 2 ≤ k
  · exact op_repT pins s σ H _ _ v u Q I rx ry ⟨l, k, xs, rfl, rfl, hT, hb.1, hb.2, h2, hz, q⟩
  · cases rx
    obtain ⟨t, rfl⟩ := ry
    obtain ⟨its, r, ⟨⟨cls, dd, data, sl⟩, ho, hc, n, hd⟩, hs⟩ := I.tuple hT
    simp only at hc hd
    subst hc hd
    have hle : its.length = xs.length := r.length.symm
    have c0 : (decide (k < -(2 ^ 63)) || decide (k ≥ 2 ^ 63)) = false := by
      rw [decide_eq_false (by omega), decide_eq_false (by omega)] <;> rfl
    cases c1 : (its.toArray.isEmpty || k == 1) with
    | true =>
      have hor : xs = [] ∨ k = 1 := by
        rcases Bool.or_eq_true _ _ |>.mp c1 with z | z
        · left
          cases its with
          | nil => exact List.eq_nil_of_length_eq_zero hle.symm
          | cons a b => cases z
        · right; exact eq_of_beq z
      refine wpAny_binaryOp_repeat_ref (T := "tuple") (U := "int") (by decide) ⟨_, ho, rfl⟩ (fun s' => typeIs_int s' k t) noFill_tuple_mul F.fills_int_mul F.slot_int_rmul repeat_tuple F.slot_int_index.lookup
        (call_meets F.slot_int_rmul (typeIs_int s k t) F.entry_int_rmul (F.args_int_rmul_2 _ _) (int_rmul_tuple k t l its.toArray n dd sl)
          ⟨ho, rfl, ⟨_, ho, rfl⟩, call_meets F.slot_tuple_mul ⟨_, ho, rfl⟩ F.entry_tuple_mul (F.args_tuple_mul_2 _ _) (tuple_mulS l its.toArray n dd sl k t c0 c1) ⟨ho, ?_⟩⟩)
      exact ⟨.ref l, H, I, rfl, q1 hor⟩
    | false =>
      have hne : its ≠ [] := fun e => by subst e; cases c1
      have hxs : xs ≠ [] := fun e => hne (by rw [e] at hle; exact List.eq_nil_of_length_eq_zero hle)
      have hk1 : k ≠ 1 := fun e => by
        subst e
        rw [show ((1 : Int) == 1) = true from rfl, Bool.or_true] at c1
        cases c1
      have hk : k ≤ 0 := by
        have : ¬ 2 ≤ k := fun z => hb ⟨hxs, z⟩
        omega
      have c2 : (decide (k ≤ 0) || its.toArray.isEmpty) = true := by rw [decide_eq_true hk] <;> rfl
      refine wpAny_binaryOp_repeat_ref (T := "tuple") (U := "int") (by decide) ⟨_, ho, rfl⟩ (fun s' => typeIs_int s' k t) noFill_tuple_mul F.fills_int_mul F.slot_int_rmul repeat_tuple F.slot_int_index.lookup
        (call_meets F.slot_int_rmul (typeIs_int s k t) F.entry_int_rmul (F.args_int_rmul_2 _ _) (int_rmul_tuple k t l its.toArray n dd sl)
          ⟨ho, rfl, ⟨_, ho, rfl⟩, call_meets F.slot_tuple_mul ⟨_, ho, rfl⟩ F.entry_tuple_mul (F.args_tuple_mul_2 _ _) (tuple_mulZ l its.toArray n dd sl k t c0 c1 c2) ⟨ho, ?_⟩⟩)
      have e0 : k.toNat = 0 := by omega
      have q := q s.heap.objs.size (I.hok.fresh (Nat.le_refl _))
      rw [e0] at q
      refine ⟨.ref s.heap.objs.size, _, I.laid (t' := s.toks) (o := .tup []) (fun b ob q => Heap.get?_push_of_some _ q) (Nat.le_refl _) ?_, rfl, q⟩
      exact ⟨Nat.zero_le _, [], .nil, IsTup.new _ _⟩
end Tn
end

section
set_option Elab.async false
set_option linter.all false
set_option maxRecDepth 100000
set_option maxHeartbeats 1000000
namespace Tn
open PySem PySem.Spec PyProof.Rows L2
variable [TB]
theorem big_eq : big = sizeLine := by rw [sizeLine_eq]; rfl
theorem big_le : big ≤ sizeLine := Nat.le_of_eq big_eq
/-- what may be read now: a value, or what stands at a place that may be changed -/
def Rv (K : PySem.W.Frag) (H : Hp) (mu : Addr → Prop) (v : V) (d : D) : Prop := Dv K H mu v d ∨ ∃ a, v = .ref a ∧ Ob K H mu a d
section
variable {K : PySem.W.Frag} {H H' : Hp} {mu : Addr → Prop} {v : V} {d : D}
theorem Rv.dp (h : Rv K H mu v d) : Dp K H v d := by
  rcases h with h | ⟨a, rfl, xs, ds, rfl, h1, h2⟩
  · exact Dv.dp d v h
  · exact .lst (.of h1) (Dvs.dp ds xs h2)
theorem Rv.lay (h : Rv K H mu v d) : d.canLay0 = true := by
  rcases h with h | ⟨a, rfl, xs, ds, rfl, h1, h2⟩
  · exact Dv.lay d v h
  · exact Dvs.lay ds xs h2
/-- a list or tuple that may be read -/
theorem Rv.seq {ds : List D} (h : Rv K H mu v d) (e : seqOf d = some ds) : ∃ a xs, v = .ref a ∧ (SqL K H a xs ∨ SqT K H a xs) ∧ Dvs K H mu xs ds := by
  rcases h with h | ⟨a, rfl, xs, ds', rfl, h1, h2⟩
  · cases h with
    | lst h1 h2 h3 => cases e; exact ⟨_, _, rfl, .inl (.of h1), h3⟩
    | tup h1 h2 h3 => cases e; exact ⟨_, _, rfl, .inr (.of h1), h3⟩
    | tupK h1 h3 => cases e; exact ⟨_, _, rfl, .inr (SqT.ofK h1), h3⟩
    | _ => cases e
  · cases e
    exact ⟨a, xs, rfl, .inl (.of h1), h2⟩
theorem Rv.lst {ds : List D} (h : Rv K H mu v (.list ds)) : ∃ a xs, v = .ref a ∧ SqL K H a xs ∧ Dvs K H mu xs ds := by
  rcases h with h | ⟨a, rfl, xs, ds', e, h1, h2⟩
  · cases h with
    | lst h1 h2 h3 => exact ⟨_, _, rfl, .of h1, h3⟩
  · cases e
    exact ⟨a, xs, rfl, .of h1, h2⟩
theorem Rv.tup {ds : List D} (h : Rv K H mu v (.tuple ds)) : ∃ a xs, v = .ref a ∧ SqT K H a xs ∧ Dvs K H mu xs ds := by
  rcases h with h | ⟨a, rfl, xs, ds', e, h1, h2⟩
  · cases h with
    | tup h1 h2 h3 => exact ⟨_, _, rfl, .of h1, h3⟩
    | tupK h1 h3 => exact ⟨_, _, rfl, SqT.ofK h1, h3⟩
  · cases e
theorem Rv.dv (h : Rv K H mu v d) (n : ∀ ds, d ≠ .list ds) : Dv K H mu v d := by
  rcases h with h | ⟨a, rfl, xs, ds', e, h1, h2⟩
  · exact h
  · exact absurd e (n _)
theorem Rv.int {i : Int} (h : Rv K H mu v (.int i)) : v = .int i := by cases h.dv (fun _ e => by cases e); rfl
theorem Rv.bl {b : Bool} (h : Rv K H mu v (.bool b)) : v = .bl b := by cases h.dv (fun _ e => by cases e); rfl
theorem Rv.str {x : Str} (h : Rv K H mu v (.str x)) : v = .str x ∧ PyData.strOk x = true := by
  cases h.dv (fun _ e => by cases e) with | str _ hx => exact ⟨rfl, hx⟩
theorem Rv.non (h : Rv K H mu v .none) : v = .non := by cases h.dv (fun _ e => by cases e); rfl
theorem Rv.noDict {kvs : List (D × D)} (h : Rv K H mu v (.dict kvs)) : False := by cases h.dv (fun _ e => by cases e)
end
/-- one and two places in, a value out -/
def rD1 (K : PySem.W.Frag) (g : D → Option D) : V → Hp → VK → Prop := fun x H Q => ∃ mu d1 d, (∀ a, mu a → H a ≠ none) ∧ Rv K H mu x d1 ∧ g d1 = some d ∧ ∀ v H', Grow H H' → Dv K H' mu v d → Q v H'
def rD2 (K : PySem.W.Frag) (g : D → D → Option D) : R2 := fun x y H Q => ∃ mu d1 d2 d, (∀ a, mu a → H a ≠ none) ∧ Rv K H mu x d1 ∧ Rv K H mu y d2 ∧ g d1 d2 = some d ∧ ∀ v H', Grow H H' → Dv K H' mu v d → Q v H'
/-- a built-in's call with one value; with two -/
def rC1 (K : PySem.W.Frag) (g : D → Option D) : List V → Hp → VK → Prop := fun xs H Q => ∃ x, xs = [x] ∧ rD1 K g x H Q
def rC2 (K : PySem.W.Frag) (g : D → D → Option D) : List V → Hp → VK → Prop := fun xs H Q => ∃ x y, xs = [x, y] ∧ rD2 K g x y H Q
section
variable {X : Cx}
theorem OpR.weak {f : Value → Value → Sem Value} {r r' : R2} (h : OpR X f r) (k : ∀ x y H Q, r' x y H Q → r x y H Q) : OpR X f r' := fun pins s σ H x y v u Q I rx ry q => h pins s σ H x y v u Q I rx ry (k x y H Q q)
theorem UnR.weak {f : Value → Sem Value} {r r' : V → Hp → VK → Prop} (h : UnR X f r) (k : ∀ x H Q, r' x H Q → r x H Q) : UnR X f r' := fun pins s σ H x v Q I rx q => h pins s σ H x v Q I rx (k x H Q q)
theorem CallR.weak {f : Value} {r r' : List V → Hp → VK → Prop} (h : CallR X f r) (k : ∀ x H Q, r' x H Q → r x H Q) : CallR X f r' := fun pins s σ H x v Q I rx q => h pins s σ H x v Q I rx (k x H Q q)
/-! ### arithmetic -/
theorem mulOk_of {i j : Int} (h : mulOk i j = true) : CMul i j ∨ CMulW i j := by
  unfold mulOk at h
  simp only [Bool.or_eq_true, decide_eq_true_eq] at h
  rcases h with (h | h) | h
  · exact .inl (.inl ⟨by omega, by omega⟩)
  · exact .inl (.inr ⟨by omega, by omega⟩)
  · exact .inr h
theorem new_tup {K : PySem.W.Frag} {H : Hp} {mu : Addr → Prop} {xs : List V} {ds : List D} {p : Addr} (m : ∀ a, mu a → H a ≠ none) (hp : H p = none) (h : Dvs K H mu xs ds) : Dv K (upd H p (.tup xs)) mu (.ref p) (.tuple ds) :=
  .tup upd_same (fun z => m p z hp) (Dvs.mono (fun a o _ q _ => Grow.upd hp a o q) (fun _ _ z => z) ds xs h)
theorem new_lst {K : PySem.W.Frag} {H : Hp} {mu : Addr → Prop} {xs : List V} {ds : List D} {p : Addr} (m : ∀ a, mu a → H a ≠ none) (hp : H p = none) (h : Dvs K H mu xs ds) : Dv K (upd H p (.lst xs)) mu (.ref p) (.list ds) :=
  .lst upd_same (fun z => m p z hp) (Dvs.mono (fun a o _ q _ => Grow.upd hp a o q) (fun _ _ z => z) ds xs h)
theorem strOk_app {x y : Str} (hx : PyData.strOk x = true) (hy : PyData.strOk y = true) : PyData.strOk (x ++ y) = true := by
  unfold PyData.strOk at *
  have e : (x ++ y).cps = x.cps ++ y.cps := rfl
  rw [e, Array.all_append, hx, hy]; rfl
theorem od_add : OpR X (binaryOp .Add) (rD2 X.K opAdd) := by
  intro pins s σ H x y v u Q I rx ry h
  obtain ⟨mu, d1, d2, d, m, h1, h2, e, q⟩ := h
  unfold opAdd at e
  split at e
  · cases e
    exact op_add pins s σ H x y v u Q I rx ry ⟨_, _, h1.int, h2.int, q _ H (Grow.refl H) (.int _)⟩
  · split at e
    · rename_i hz
      cases e
      obtain ⟨e1, s1⟩ := h1.str
      obtain ⟨e2, s2⟩ := h2.str
      exact op_add_str pins s σ H x y v u Q I rx ry ⟨_, _, e1, e2, Nat.le_trans hz big_le, q _ H (Grow.refl H) (.str _ (strOk_app s1 s2))⟩
    · cases e
  · split at e
    · rename_i hz
      cases e
      obtain ⟨a, xs, rfl, ha, k1⟩ := h1.tup
      obtain ⟨b, ys, rfl, hb, k2⟩ := h2.tup
      have l1 := k1.len
      have l2 := k2.len
      refine op_catA pins s σ H _ _ v u Q I rx ry ⟨a, b, xs, ys, rfl, rfl, ha, hb, by rw [l1, l2]; exact Nat.le_trans hz big_le, fun z => ?_, fun _ z => ?_, fun _ _ p hp => ?_⟩
      · subst z; cases k1; exact q _ H (Grow.refl H) (h2.dv fun _ z => by cases z)
      · subst z; cases k2; rw [List.append_nil] at q; exact q _ H (Grow.refl H) (h1.dv fun _ z => by cases z)
      · exact q _ _ (Grow.upd hp) (new_tup m hp (k1.app k2))
    · cases e
  · cases e
theorem od_sub : OpR X (binaryOp .Sub) (rD2 X.K opSub) := by
  refine Tn.OpR.weak op_sub fun x y H Q ⟨mu, d1, d2, d, m, h1, h2, e, q⟩ => ?_
  unfold opSub at e
  split at e
  · cases e; exact ⟨_, _, h1.int, h2.int, q _ H (Grow.refl H) (.int _)⟩
  · cases e
theorem od_mul : OpR X (binaryOp .Mult) (rD2 X.K opMul) := by
  intro pins s σ H x y v u Q I rx ry h
  obtain ⟨mu, d1, d2, d, m, h1, h2, e, q⟩ := h
  unfold opMul at e
  split at e
  · split at e
    · rename_i hz
      cases e
      rcases mulOk_of hz with c | c
      · exact op_mul pins s σ H x y v u Q I rx ry ⟨_, _, h1.int, h2.int, c, q _ H (Grow.refl H) (.int _)⟩
      · exact op_mulW pins s σ H x y v u Q I rx ry ⟨_, _, h1.int, h2.int, c, q _ H (Grow.refl H) (.int _)⟩
    · cases e
  · split at e
    · rename_i hz
      cases e
      simp only [Bool.and_eq_true, decide_eq_true_eq] at hz
      obtain ⟨a, xs, rfl, ha, k1⟩ := h1.tup
      have l1 := k1.len
      refine op_repA pins s σ H _ _ v u Q I rx ry ⟨a, _, xs, rfl, h2.int, ha, hz.2, hz.1.2, by omega, fun z => ?_, fun p hp => ?_⟩
      · have e0 : ∀ (k : Int) (ds : List D), (ds = [] ∨ k = 1) → repl k.toNat ds = ds := fun k ds z => by
          unfold repl
          rcases z with z | z
          · subst z; simp
          · subst z; simp
        refine q _ H (Grow.refl H) ?_
        rw [e0]
        · exact h1.dv (fun _ e => by cases e)
        · rcases z with z | z
          · subst z; left; cases k1; rfl
          · exact .inr z
      · refine q _ _ (Grow.upd hp) (new_tup m hp ?_)
        have rp : ∀ n, Dvs X.K H mu (List.replicate n xs).flatten (repl n _) := fun n => by
          induction n with
          | zero => exact .nil
          | succ n ih =>
            unfold repl at ih ⊢
            rw [List.replicate_succ, List.replicate_succ, List.flatten_cons, List.flatten_cons]
            exact k1.app ih
        exact rp _
    · cases e
  · cases e
theorem od_fd : OpR X (binaryOp .FloorDiv) (rD2 X.K opFd) := by
  refine Tn.OpR.weak op_fdivW fun x y H Q ⟨mu, d1, d2, d, m, h1, h2, e, q⟩ => ?_
  unfold opFd at e
  split at e
  · split at e
    · rename_i hz
      cases e
      simp only [Bool.and_eq_true, decide_eq_true_eq] at hz
      exact ⟨_, _, h1.int, h2.int, hz, q _ H (Grow.refl H) (.int _)⟩
    · cases e
  · cases e
theorem od_mod : OpR X (binaryOp .Mod) (rD2 X.K opMod) := by
  refine Tn.OpR.weak op_mod fun x y H Q ⟨mu, d1, d2, d, m, h1, h2, e, q⟩ => ?_
  unfold opMod at e
  split at e
  · split at e
    · rename_i hz
      cases e
      exact ⟨_, _, h1.int, h2.int, hz, q _ H (Grow.refl H) (.int _)⟩
    · cases e
  · cases e
theorem od_pow : OpR X (binaryOp .Pow) (rD2 X.K opPow) := by
  refine Tn.OpR.weak op_pow fun x y H Q ⟨mu, d1, d2, d, m, h1, h2, e, q⟩ => ?_
  unfold opPow at e
  split at e
  · split at e
    · rename_i hz
      cases e
      simp only [Bool.and_eq_true, decide_eq_true_eq] at hz
      exact ⟨_, _, h1.int, h2.int, ⟨hz.1.1, hz.1.2, hz.2⟩, q _ H (Grow.refl H) (.int _)⟩
    · cases e
  · cases e
/-! ### == and its kin -/
theorem room_min {A : Around} {d e : D} (hu : A.units + 100 < cLine) (h : d.depth ≤ 64 ∨ e.depth ≤ 64) : A.units + min d.depth e.depth < cLine := by
  have h1 := Nat.min_le_left d.depth e.depth
  have h2 := Nat.min_le_right d.depth e.depth
  rcases h with h | h <;> omega
theorem od_eq (hu : X.A.units + 100 < cLine) : OpR X (compareOp .Eq) (rD2 X.K opEq) := by
  intro pins s σ H x y v u Q I rx ry h
  obtain ⟨mu, d1, d2, d, m, h1, h2, e, q⟩ := h
  unfold opEq at e
  split at e
  · rename_i hz
    cases e
    obtain ⟨as, ra⟩ := Dp.reads I _ _ _ h1.dp rx
    obtain ⟨bs, rb⟩ := Dp.reads I _ _ _ h2.dp ry
    exact SeqAt.compareEq_reads ra rb h1.lay h2.lay (room_min hu hz) ⟨.bl _, H, I, rfl, q _ H (Grow.refl H) (.bl _)⟩
  · cases e
theorem od_ne (hu : X.A.units + 100 < cLine) : OpR X (compareOp .NotEq) (rD2 X.K opNe) := by
  intro pins s σ H x y v u Q I rx ry h
  obtain ⟨mu, d1, d2, d, m, h1, h2, e, q⟩ := h
  unfold opNe at e
  split at e
  · rename_i hz
    cases e
    obtain ⟨as, ra⟩ := Dp.reads I _ _ _ h1.dp rx
    obtain ⟨bs, rb⟩ := Dp.reads I _ _ _ h2.dp ry
    exact SeqAt.compareNe_reads ra rb h1.lay h2.lay (room_min hu hz) ⟨.bl _, H, I, rfl, q _ H (Grow.refl H) (.bl _)⟩
  · cases e
theorem room_in {A : Around} {ds : List D} {e : D} (hu : A.units + 100 < cLine) (h : e.depth ≤ 64) : A.units + 1 + min (PyData.depthAll ds) e.depth < cLine := by
  have h2 := Nat.min_le_right (PyData.depthAll ds) e.depth
  omega
theorem od_in (hu : X.A.units + 100 < cLine) : OpR X (compareOp .In) (rD2 X.K opIn) := by
  intro pins s σ H x y v u Q I rx ry h
  obtain ⟨mu, d1, d2, d, m, h1, h2, e, q⟩ := h
  unfold opIn at e
  split at e
  · rename_i ys ey
    split at e
    · rename_i hz
      cases e
      obtain ⟨as, ra⟩ := Dp.reads I _ _ _ h1.dp rx
      obtain ⟨bs, rb⟩ := Dp.reads I _ _ _ h2.dp ry
      have l2 := h2.lay
      have fin : EP X pins σ Q (.bool (memD d1 ys)) s := ⟨.bl _, H, I, rfl, q _ H (Grow.refl H) (.bl _)⟩
      cases d2 with
      | list zs => cases ey; exact SeqAt.in_list_reads rb ra l2 h1.lay (room_in hu hz) fin
      | tuple zs => cases ey; exact SeqAt.in_tuple_reads rb ra l2 h1.lay (room_in hu hz) fin
      | _ => cases ey
    · cases e
  · cases e
theorem od_notIn (hu : X.A.units + 100 < cLine) : OpR X (compareOp .NotIn) (rD2 X.K opNotIn) := by
  intro pins s σ H x y v u Q I rx ry h
  obtain ⟨mu, d1, d2, d, m, h1, h2, e, q⟩ := h
  unfold opNotIn at e
  split at e
  · rename_i ys ey
    split at e
    · rename_i hz
      cases e
      obtain ⟨as, ra⟩ := Dp.reads I _ _ _ h1.dp rx
      obtain ⟨bs, rb⟩ := Dp.reads I _ _ _ h2.dp ry
      have l2 := h2.lay
      have fin : EP X pins σ Q (.bool (!memD d1 ys)) s := ⟨.bl _, H, I, rfl, q _ H (Grow.refl H) (.bl _)⟩
      cases d2 with
      | list zs => cases ey; exact SeqAt.notIn_list_reads rb ra l2 h1.lay (room_in hu hz) fin
      | tuple zs => cases ey; exact SeqAt.notIn_tuple_reads rb ra l2 h1.lay (room_in hu hz) fin
      | _ => cases ey
    · cases e
  · cases e
theorem Dv.isNone {K : PySem.W.Frag} {H : Hp} {mu : Addr → Prop} {v : V} {d : D} (h : Rv K H mu v d) : decide (v = .non) = isNone d := by
  rcases h with h | ⟨a, rfl, xs, ds, rfl, h1, h2⟩
  · cases h <;> rfl
  · rfl
theorem od_isN : OpR X (compareOp .Is) (fun x y H Q => y = .non ∧ rD1 X.K opIsN x H Q) := by
  refine Tn.OpR.weak op_isN fun x y H Q ⟨ey, mu, d1, d, m, h1, e, q⟩ => ⟨ey, ?_⟩
  cases e
  rw [Dv.isNone h1]
  exact q _ H (Grow.refl H) (.bl _)
theorem od_notN : OpR X (compareOp .IsNot) (fun x y H Q => y = .non ∧ rD1 X.K opNotN x H Q) := by
  refine Tn.OpR.weak op_notN fun x y H Q ⟨ey, mu, d1, d, m, h1, e, q⟩ => ⟨ey, ?_⟩
  cases e
  rw [Dv.isNone h1]
  exact q _ H (Grow.refl H) (.bl _)
/-! ### order -/
theorem od_lt (hu : X.A.units + 100 < cLine) : OpR X (compareOp .Lt) (rD2 X.K opLt) := by
  intro pins s σ H x y v u Q I rx ry h
  obtain ⟨mu, d1, d2, d, m, h1, h2, e, q⟩ := h
  unfold opLt at e
  split at e
  · cases e; exact op_lt pins s σ H x y v u Q I rx ry ⟨_, _, h1.int, h2.int, q _ H (Grow.refl H) (.bl _)⟩
  · split at e
    · rename_i hz
      cases e
      obtain ⟨as, ra⟩ := Dp.reads I _ _ _ h1.dp rx
      obtain ⟨bs, rb⟩ := Dp.reads I _ _ _ h2.dp ry
      simp only [ordOk, Bool.and_eq_true, decide_eq_true_eq, Bool.not_eq_true'] at hz
      have nn : d1 ≠ .none := fun z => by
        subst z
        exact Bool.noConfusion hz.2
      exact PySem.W.rcLt_alike d1 d2 X.A s v u as bs ra rb hz.1.1 nn (room_min hu (.inl hz.1.2)) _ _ _ _ ⟨.bl _, H, I, rfl, q _ H (Grow.refl H) (.bl _)⟩
    · cases e
theorem ord_of {d e : D} (h : ordOk d e = true) : PySem.W.alike d e = true ∧ d.depth ≤ 64 ∧ d ≠ .none := by
  simp only [ordOk, Bool.and_eq_true, decide_eq_true_eq, Bool.not_eq_true'] at h
  exact ⟨h.1.1, h.1.2, fun z => by subst z; exact Bool.noConfusion h.2⟩
theorem od_le (hu : X.A.units + 100 < cLine) : OpR X (compareOp .LtE) (rD2 X.K opLe) := by
  intro pins s σ H x y v u Q I rx ry h
  obtain ⟨mu, d1, d2, d, m, h1, h2, e, q⟩ := h
  unfold opLe at e
  split at e
  · cases e; exact op_le pins s σ H x y v u Q I rx ry ⟨_, _, h1.int, h2.int, q _ H (Grow.refl H) (.bl _)⟩
  · split at e
    · rename_i hz
      cases e
      obtain ⟨as, ra⟩ := Dp.reads I _ _ _ h1.dp rx
      obtain ⟨bs, rb⟩ := Dp.reads I _ _ _ h2.dp ry
      obtain ⟨z1, z2, z3⟩ := ord_of hz
      exact PySem.W.le_data ra rb z1 z3 (room_min hu (.inl z2)) ⟨.bl _, H, I, rfl, q _ H (Grow.refl H) (.bl _)⟩
    · cases e
theorem od_gt (hu : X.A.units + 100 < cLine) : OpR X (compareOp .Gt) (rD2 X.K opGt) := by
  intro pins s σ H x y v u Q I rx ry h
  obtain ⟨mu, d1, d2, d, m, h1, h2, e, q⟩ := h
  unfold opGt at e
  split at e
  · cases e; exact op_gt pins s σ H x y v u Q I rx ry ⟨_, _, h1.int, h2.int, q _ H (Grow.refl H) (.bl _)⟩
  · split at e
    · rename_i hz
      cases e
      obtain ⟨as, ra⟩ := Dp.reads I _ _ _ h1.dp rx
      obtain ⟨bs, rb⟩ := Dp.reads I _ _ _ h2.dp ry
      obtain ⟨z1, z2, z3⟩ := ord_of hz
      exact PySem.W.gt_data ra rb z1 z3 (room_min hu (.inl z2)) ⟨.bl _, H, I, rfl, q _ H (Grow.refl H) (.bl _)⟩
    · cases e
theorem od_ge (hu : X.A.units + 100 < cLine) : OpR X (compareOp .GtE) (rD2 X.K opGe) := by
  intro pins s σ H x y v u Q I rx ry h
  obtain ⟨mu, d1, d2, d, m, h1, h2, e, q⟩ := h
  unfold opGe at e
  split at e
  · cases e; exact op_ge pins s σ H x y v u Q I rx ry ⟨_, _, h1.int, h2.int, q _ H (Grow.refl H) (.bl _)⟩
  · split at e
    · rename_i hz
      cases e
      obtain ⟨as, ra⟩ := Dp.reads I _ _ _ h1.dp rx
      obtain ⟨bs, rb⟩ := Dp.reads I _ _ _ h2.dp ry
      obtain ⟨z1, z2, z3⟩ := ord_of hz
      exact PySem.W.ge_data ra rb z1 z3 (room_min hu (.inl z2)) ⟨.bl _, H, I, rfl, q _ H (Grow.refl H) (.bl _)⟩
    · cases e
theorem od_neg : UnR X (unaryOp .USub) (rD1 X.K opNeg) := by
  refine Tn.UnR.weak un_neg fun x H Q ⟨mu, d1, d, m, h1, e, q⟩ => ?_
  unfold opNeg at e
  split at e
  · cases e; exact ⟨_, h1.int, q _ H (Grow.refl H) (.int _)⟩
  · cases e
/-! ### subscripts -/
theorem at_of {K : PySem.W.Frag} {H : Hp} {mu : Addr → Prop} {xs : List V} {ds : List D} {i : Int} {d : D} (h : Dvs K H mu xs ds) (e : atL ds i = some d) : ∃ v, L2.atI xs i = some v ∧ Dv K H mu v d := by
  unfold atL at e
  split at e
  · rename_i j hj
    obtain ⟨v, h1, h2⟩ := h.get e
    refine ⟨v, ?_, h2⟩
    unfold L2.atI
    have hj' : L2.ixN xs.length i = some j := by rw [h.len]; exact hj
    rw [hj']
    exact h1
  · cases e
theorem od_ix : IxR X (rD2 X.K opIx) := by
  intro value slice pins s σ H x y v u Q I rx ry h hs
  obtain ⟨mu, d1, d2, d, m, h1, h2, e, q⟩ := h
  unfold opIx at e
  split at e
  · obtain ⟨a, xs, rfl, ha, k⟩ := h1.lst
    obtain ⟨w, e1, e2⟩ := at_of k e
    exact ix_list value slice pins s σ H _ _ v u Q I rx ry ⟨a, xs, _, w, rfl, h2.int, ha, e1, q _ H (Grow.refl H) e2⟩ hs
  · obtain ⟨a, xs, rfl, ha, k⟩ := h1.tup
    obtain ⟨w, e1, e2⟩ := at_of k e
    exact ix_tup value slice pins s σ H _ _ v u Q I rx ry ⟨a, xs, _, w, rfl, h2.int, ha, e1, q _ H (Grow.refl H) e2⟩ hs
  · cases e
/-- a slice's reading -/
def rD3 (K : PySem.W.Frag) (g : D → Option Int → Option Int → Option D) : V → Option Int → Option Int → Hp → VK → Prop := fun x lo hi H Q => ∃ mu d1 d, (∀ a, mu a → H a ≠ none) ∧ Rv K H mu x d1 ∧ g d1 lo hi = some d ∧ ∀ v H', Grow H H' → Dv K H' mu v d → Q v H'
theorem cut_of {K : PySem.W.Frag} {H : Hp} {mu : Addr → Prop} {xs : List V} {ds : List D} {lo hi : Option Int} (h : Dvs K H mu xs ds) : Dvs K H mu (cutV xs lo hi) (cutL ds lo hi) := by
  have e : ∀ n d o, HT.sIx n d o = sIx n d o := fun n d o => by cases o <;> rfl
  unfold cutV cutL
  rw [e, e, h.len]
  exact (h.drop _).take _
theorem od_slT : SlR X (rD3 X.K opSlT) := by
  intro pins s σ H x v vl vu lo hi sl Q I rx hs pl pu h
  obtain ⟨mu, d1, d, m, h1, e, q⟩ := h
  unfold opSlT at e
  split at e
  · cases e
    obtain ⟨a, xs, rfl, ha, k⟩ := h1.tup
    refine sl_tupA pins s σ H _ v vl vu lo hi sl Q I rx hs pl pu ⟨a, xs, rfl, ha, fun ⟨z1, z2⟩ => ?_, fun _ p hp => q _ _ (Grow.upd hp) (new_tup m hp (cut_of k))⟩
    refine q _ H (Grow.refl H) ?_
    have e : ∀ n d o, HT.sIx n d o = sIx n d o := fun n d o => by cases o <;> rfl
    rw [k.len, e] at z1 z2
    unfold cutL
    rw [z1, z2, List.drop_zero, Nat.sub_zero, List.take_length]
    exact h1.dv fun _ z => by cases z
  · cases e
/-! ### built-in functions -/
theorem od_len : CallR X (.builtin "len") (rC1 X.K opLen) := by
  intro pins s σ H xs us Q I rs h
  obtain ⟨x, rfl, mu, d1, d, m, h1, e, q⟩ := h
  unfold opLen at e
  split at e
  · cases e
    obtain ⟨a, ys, rfl, ha, k⟩ := h1.lst
    exact call_len_seq pins s σ H _ us Q I rs ⟨a, ys, rfl, .inl ha, q _ H (Grow.refl H) (by rw [← k.len]; exact .int _)⟩
  · cases e
    obtain ⟨a, ys, rfl, ha, k⟩ := h1.tup
    exact call_len_seq pins s σ H _ us Q I rs ⟨a, ys, rfl, .inr ha, q _ H (Grow.refl H) (by rw [← k.len]; exact .int _)⟩
  · split at e
    · rename_i hz
      cases e
      obtain ⟨e1, s1⟩ := h1.str
      exact call_len_str pins s σ H _ us Q I rs ⟨_, by rw [e1], Nat.le_trans hz big_le, q _ H (Grow.refl H) (.int _)⟩
    · cases e
  · cases e
theorem od_abs : CallR X (.builtin "abs") (rC1 X.K opAbs) := by
  refine Tn.CallR.weak call_abs fun xs H Q ⟨x, ex, mu, d1, d, m, h1, e, q⟩ => ?_
  subst ex
  unfold opAbs at e
  split at e
  · cases e; exact ⟨_, by rw [h1.int], q _ H (Grow.refl H) (.int _)⟩
  · cases e
theorem od_int : CallR X (.type "int") (rC1 X.K opInt) := by
  refine Tn.CallR.weak call_int1 fun xs H Q ⟨x, ex, mu, d1, d, m, h1, e, q⟩ => ?_
  subst ex
  unfold opInt at e
  split at e
  · cases e; exact .inl ⟨_, by rw [h1.int], q _ H (Grow.refl H) (.int _)⟩
  · cases e; exact .inr ⟨_, by rw [h1.bl], q _ H (Grow.refl H) (.int _)⟩
  · cases e
theorem od_max2 (hc : X.calm = true) : CallR X (.builtin "max") (rC2 X.K opMax2) := by
  refine Tn.CallR.weak (call_max2 hc) fun xs H Q ⟨x, y, ex, mu, d1, d2, d, m, h1, h2, e, q⟩ => ?_
  subst ex
  unfold opMax2 at e
  split at e
  · cases e; exact ⟨_, _, by rw [h1.int, h2.int], q _ H (Grow.refl H) (.int _)⟩
  · cases e
theorem od_min2 (hc : X.calm = true) : CallR X (.builtin "min") (rC2 X.K opMin2) := by
  refine Tn.CallR.weak (call_min2 hc) fun xs H Q ⟨x, y, ex, mu, d1, d2, d, m, h1, h2, e, q⟩ => ?_
  subst ex
  unfold opMin2 at e
  split at e
  · cases e; exact ⟨_, _, by rw [h1.int, h2.int], q _ H (Grow.refl H) (.int _)⟩
  · cases e
theorem od_tuple : CallR X (.type "tuple") (rC1 X.K opTuple) := by
  intro pins s σ H xs us Q I rs h
  obtain ⟨x, rfl, mu, d1, d, m, h1, e, q⟩ := h
  unfold opTuple at e
  split at e
  · cases e
    obtain ⟨a, ys, rfl, ha, k⟩ := h1.lst
    exact call_tuple_of pins s σ H _ us Q I rs ⟨a, ys, rfl, .inl ⟨ha, fun l hl => q _ _ (Grow.upd hl) (new_tup m hl k)⟩⟩
  · cases e
    obtain ⟨a, ys, rfl, ha, k⟩ := h1.tup
    exact call_tuple_of pins s σ H _ us Q I rs ⟨a, ys, rfl, .inr ⟨ha, q _ H (Grow.refl H) (h1.dv fun _ z => by cases z)⟩⟩
  · cases e
theorem bools_of {K : PySem.W.Frag} {H : Hp} {mu : Addr → Prop} : ∀ {ds : List D} {xs : List V} {bs : List Bool}, Dvs K H mu xs ds → boolsOf ds = some bs → xs = bs.map V.bl
  | [], _, _, h, e => by cases h; cases e; rfl
  | d :: ds, _, bs, h, e => by
    cases h with
    | cons h1 h2 =>
      cases d with
      | bool b =>
        unfold boolsOf at e
        cases e2 : boolsOf ds with
        | none => rw [e2] at e; cases e
        | some r =>
          rw [e2] at e
          cases e
          cases h1
          rw [bools_of h2 e2]
          rfl
      | _ => cases e
theorem ints_of {K : PySem.W.Frag} {H : Hp} {mu : Addr → Prop} : ∀ {ds : List D} {xs : List V} {bs : List Int}, Dvs K H mu xs ds → intsOf ds = some bs → xs = bs.map V.int
  | [], _, _, h, e => by cases h; cases e; rfl
  | d :: ds, _, bs, h, e => by
    cases h with
    | cons h1 h2 =>
      cases d with
      | int b =>
        unfold intsOf at e
        cases e2 : intsOf ds with
        | none => rw [e2] at e; cases e
        | some r =>
          rw [e2] at e
          cases e
          cases h1
          rw [ints_of h2 e2]
          rfl
      | _ => cases e
theorem truthy_bools : ∀ (bs : List Bool), (bs.map PyData.bool).any PyData.truthy = bs.any id ∧ (bs.map PyData.bool).all PyData.truthy = bs.all id
  | [] => ⟨rfl, rfl⟩
  | b :: bs => by
    have ih := truthy_bools bs
    constructor
    · simp only [List.map_cons, List.any_cons, ih.1]; rfl
    · simp only [List.map_cons, List.all_cons, ih.2]; rfl
theorem boolsOf_eq : ∀ {ds : List D} {bs : List Bool}, boolsOf ds = some bs → ds = bs.map PyData.bool
  | [], _, e => by cases e; rfl
  | d :: ds, bs, e => by
    cases d with
    | bool b =>
      unfold boolsOf at e
      cases e2 : boolsOf ds with
      | none => rw [e2] at e; cases e
      | some r => rw [e2] at e; cases e; rw [boolsOf_eq e2]; rfl
    | _ => cases e
theorem intsOf_eq : ∀ {ds : List D} {bs : List Int}, intsOf ds = some bs → ds = bs.map PyData.int
  | [], _, e => by cases e; rfl
  | d :: ds, bs, e => by
    cases d with
    | int b =>
      unfold intsOf at e
      cases e2 : intsOf ds with
      | none => rw [e2] at e; cases e
      | some r => rw [e2] at e; cases e; rw [intsOf_eq e2]; rfl
    | _ => cases e
theorem plain_bools : ∀ (bs : List Bool), PyData.plainAll (bs.map PyData.bool) = true
  | [] => rfl
  | b :: bs => by simp only [List.map_cons, PyData.plainAll, plain_bools bs]; rfl
theorem od_all (hc : X.calm = true) : CallR X (.builtin "all") (rC1 X.K opAll) := by
  intro pins s σ H xs us Q I rs h
  obtain ⟨x, rfl, mu, d1, d, m, h1, e, q⟩ := h
  unfold opAll at e
  split at e
  · rename_i ds eds
    cases eb : boolsOf ds with
    | none => rw [eb] at e; cases e
    | some bs =>
      rw [eb] at e
      cases e
      obtain ⟨a, ys, rfl, ha, k⟩ := h1.seq eds
      have ey := bools_of k eb
      subst ey
      rcases ha with ha | ha
      · exact cr_all hc pins s σ H _ us Q I rs ⟨a, bs, rfl, ha, q _ H (Grow.refl H) (.bl _)⟩
      · obtain ⟨its, rv, ht, _⟩ := I.tuple ha
        rw [Vals.ref1 rs]
        obtain ⟨as, ra⟩ := Dp.readsAll I _ _ _ (Dvs.dp _ _ k) rv
        have eb' := boolsOf_eq eb
        subst eb'
        refine PySem.W.all_tuple_data (I.ok.hd hc) ht ra (plain_bools bs) (fun x hx => ?_) fun h' tk hk => ⟨.bl _, H, I.kept hk, ?_, q _ H (Grow.refl H) (.bl _)⟩
        · obtain ⟨b, _, rfl⟩ := List.mem_map.mp hx; trivial
        · show Value.bool _ = Value.bool _
          rw [(truthy_bools bs).2]
  · cases e
theorem od_any (hc : X.calm = true) : CallR X (.builtin "any") (rC1 X.K opAny) := by
  intro pins s σ H xs us Q I rs h
  obtain ⟨x, rfl, mu, d1, d, m, h1, e, q⟩ := h
  unfold opAny at e
  split at e
  · rename_i ds eds
    cases eb : boolsOf ds with
    | none => rw [eb] at e; cases e
    | some bs =>
      rw [eb] at e
      cases e
      obtain ⟨a, ys, rfl, ha, k⟩ := h1.seq eds
      have ey := bools_of k eb
      subst ey
      rcases ha with ha | ha
      · exact cr_any hc pins s σ H _ us Q I rs ⟨a, bs, rfl, ha, q _ H (Grow.refl H) (.bl _)⟩
      · obtain ⟨its, rv, ht, _⟩ := I.tuple ha
        rw [Vals.ref1 rs]
        obtain ⟨as, ra⟩ := Dp.readsAll I _ _ _ (Dvs.dp _ _ k) rv
        have eb' := boolsOf_eq eb
        subst eb'
        refine PySem.W.any_tuple_data (I.ok.hd hc) ht ra (plain_bools bs) (fun x hx => ?_) fun h' tk hk => ⟨.bl _, H, I.kept hk, ?_, q _ H (Grow.refl H) (.bl _)⟩
        · obtain ⟨b, _, rfl⟩ := List.mem_map.mp hx; trivial
        · show Value.bool _ = Value.bool _
          rw [(truthy_bools bs).1]
  · cases e
end
end Tn
end

section
set_option Elab.async false
set_option linter.all false
set_option maxRecDepth 100000
set_option maxHeartbeats 1000000
namespace Tn
open PySem PySem.Spec PyProof.Rows L2
variable [TB]
section
variable {X : Cx}
/-! ### sum -/
theorem intsAre_arr {us : List Value} {ns : List Int} (h : Vals (ns.map V.int) us) : ∃ xs : Array (Int × Tok), us.toArray = intItems xs ∧ xs.toList.map (·.1) = ns := by
  induction ns generalizing us with
  | nil => cases h; exact ⟨#[], by simp [intItems], rfl⟩
  | cons n ns ih =>
    cases h with
    | cons r t =>
      obtain ⟨tk, rfl⟩ := r
      obtain ⟨xs, e1, e2⟩ := ih t
      refine ⟨((n, tk) :: xs.toList).toArray, ?_, by simp [e2]⟩
      apply Array.ext'
      have := congrArg Array.toList e1
      simp [intItems] at this ⊢
      exact this
theorem preSum_list (xs : List (Int × Tok)) : ∀ k, k ≤ xs.length → PySem.preSum (numAt xs.toArray) k = ((xs.take k).map (·.1)).sum := by
  intro k
  induction k with
  | zero => intro _; rfl
  | succ k ih =>
    intro hk
    have hk' : k < xs.length := hk
    rw [PySem.preSum, ih (by omega), List.take_add_one, List.map_append, List.sum_append]
    congr 1
    unfold numAt
    rw [List.getElem?_eq_getElem hk']
    simp [hk']
theorem od_sum (hc : X.calm = true) : CallR X (.builtin "sum") (rC1 X.K opSum) := by
  intro pins s σ H xs us Q I rs h
  obtain ⟨x, rfl, mu, d1, d, m, h1, e, q⟩ := h
  unfold opSum at e
  split at e
  · rename_i ds eds
    cases eb : Tn.intsOf ds with
    | none => rw [eb] at e; cases e
    | some bs =>
      rw [eb] at e
      cases e
      obtain ⟨a, ys, rfl, ha, k⟩ := h1.seq eds
      have ey := ints_of k eb
      subst ey
      rcases ha with ha | ha
      · exact cr_sum hc pins s σ H _ us Q I rs ⟨a, bs, rfl, ha, q _ H (Grow.refl H) (.int _)⟩
      · obtain ⟨its, rv, ht, _⟩ := I.tuple ha
        rw [Vals.ref1 rs]
        obtain ⟨xs, e1, e2⟩ := intsAre_arr rv
        rw [e1] at ht
        refine PySem.W.ktm_sumG (I.ok.hd hc) ht fun h' tk t' hk => ⟨.int _, H, I.kept hk, ⟨t', ?_⟩, q _ H (Grow.refl H) (.int _)⟩
        have e3 := preSum_list xs.toList xs.toList.length (Nat.le_refl _)
        rw [List.take_length, e2] at e3
        simp only [Array.toArray_toList, Array.length_toList] at e3
        rw [e3]
  · cases e
/-! ### the same value reads as one datum alone -/
mutual
theorem reads_one {h : Heap} : ∀ (d : PyData) (v : Value) (as : List Addr), Reads h v d as → ∀ (e : PyData) (bs : List Addr), Reads h v e bs → d.canLay0 = true → d = e
  | .none, _, _, r, e, bs, q, _ => by cases r; cases q; rfl
  | .bool _, _, _, r, e, bs, q, _ => by cases r; cases q; rfl
  | .int _, _, _, r, e, bs, q, _ => by cases r; cases q; rfl
  | .str _, _, _, r, e, bs, q, _ => by cases r; cases q; rfl
  | .list xs, _, _, r, e, bs, q, hl => by
    cases r with
    | list h1 h2 h3 h4 =>
      cases q with
      | list g1 g2 g3 g4 =>
        rw [h1] at g1; cases g1
        rw [h3] at g3; cases g3
        rw [readsAll_one xs _ _ h4 _ _ g4 (by simpa [PyData.canLay0] using hl)]
      | tuple g1 g2 g3 g4 => rw [h1] at g1; cases g1; rw [h2] at g2; exact absurd g2 (by decide)
      | dict g1 g2 g3 g4 g5 => rw [h1] at g1; cases g1; rw [h2] at g2; exact absurd g2 (by decide)
  | .tuple xs, _, _, r, e, bs, q, hl => by
    cases r with
    | tuple h1 h2 h3 h4 =>
      cases q with
      | tuple g1 g2 g3 g4 =>
        rw [h1] at g1; cases g1
        rw [h3] at g3; cases g3
        rw [readsAll_one xs _ _ h4 _ _ g4 (by simpa [PyData.canLay0] using hl)]
      | list g1 g2 g3 g4 => rw [h1] at g1; cases g1; rw [h2] at g2; exact absurd g2 (by decide)
      | dict g1 g2 g3 g4 g5 => rw [h1] at g1; cases g1; rw [h2] at g2; exact absurd g2 (by decide)
  | .dict _, _, _, _, _, _, _, hl => by cases hl
theorem readsAll_one {h : Heap} : ∀ (ds : List PyData) (vs : List Value) (as : List Addr), ReadsAll h vs ds as → ∀ (es : List PyData) (bs : List Addr), ReadsAll h vs es bs → PyData.canLayAll0 ds = true → ds = es
  | [], _, _, r, _, _, q, _ => by cases r; cases q; rfl
  | d :: ds, _, _, r, _, _, q, hl => by
    have hl' : d.canLay0 = true ∧ PyData.canLayAll0 ds = true := by simpa [PyData.canLayAll0] using hl
    cases r with
    | cons r1 r2 =>
      cases q with
      | cons q1 q2 => rw [reads_one d _ _ r1 _ _ q1 hl'.1, readsAll_one ds _ _ r2 _ _ q2 hl'.2]
end
theorem alike_of {xs : List D} (h : allAlike xs = true) : PySem.W.AlikeAll xs ∧ PyData.depthAll xs ≤ 64 := by
  simp only [allAlike, Bool.and_eq_true, List.all_eq_true, decide_eq_true_eq, Bool.not_eq_true'] at h
  refine ⟨⟨h.1.1, fun x hx z => ?_⟩, h.2⟩
  subst z
  exact Bool.noConfusion (h.1.2 _ hx)
theorem ints_alike : ∀ (is : List Int), (∀ x ∈ is.map PyData.int, ∀ y ∈ is.map PyData.int, PySem.W.alike x y = true) ∧ PyData.depthAll (is.map PyData.int) = 0 := fun is => by
  refine ⟨fun x hx y hy => ?_, ?_⟩
  · obtain ⟨i, _, rfl⟩ := List.mem_map.mp hx
    obtain ⟨j, _, rfl⟩ := List.mem_map.mp hy
    rfl
  · induction is with
    | nil => rfl
    | cons i is ih => simp only [List.map_cons, PyData.depthAll, ih]; rfl
/-- what min, max give: the item itself -/
theorem pick_of {K : PySem.W.Frag} {H : Hp} {mu : Addr → Prop} {pins : List (Addr × Obj)} {σ : L2.St} {s : Shared} {ys : List V} {ds : List D} {its : List Value} {i : Nat} {v : Value} {h' : Heap} {bs : List Addr} {d : D} {tk : Nat} {Q : VK}
    (I : Inv X pins σ H s) (eK : K = X.K) (rv : Vals ys its) (k : Dvs K H mu ys ds) (e : its.toArray[i]? = some v) (r : Reads h' v d bs) (hk : ∀ b o, s.heap.get? b = some o → h'.get? b = some o)
    (q : ∀ v H', Grow H H' → Dv K H' mu v d → Q v H') : EP X pins σ Q v { s with heap := h', toks := tk } := by
  subst eK
  have e' : its[i]? = some v := by simpa using e
  have hi : i < ys.length := by rw [rv.length]; exact (List.getElem?_eq_some_iff.mp e').1
  obtain ⟨u, hu, ru⟩ := rv.get (List.getElem?_eq_getElem hi)
  rw [e'] at hu; cases hu
  obtain ⟨d0, hd0, dv⟩ := k.getv (List.getElem?_eq_getElem hi)
  have I' : Inv X pins σ H { s with heap := h', toks := tk } := I.kept hk
  obtain ⟨as, r0⟩ := Dp.reads I' _ _ _ (Dv.dp _ _ dv) ru
  have ed := reads_one d0 _ _ r0 _ _ r (Dv.lay _ _ dv)
  subst ed
  exact ⟨_, H, I', ru, q _ H (Grow.refl H) dv⟩
theorem od_max (hc : X.calm = true) (hu : X.A.units + 100 < cLine) : CallR X (.builtin "max") (rC1 X.K opMax) := by
  intro pins s σ H xs us Q I rs h
  obtain ⟨x, rfl, mu, d1, d, m, h1, e, q⟩ := h
  unfold opMax at e
  split at e
  · rename_i y ys eds
    obtain ⟨a, vs, rfl, ha, k⟩ := h1.seq eds
    have both : ∃ r, d = r ∧ r = PySem.W.maxD y ys ∧ PySem.W.AlikeAll (y :: ys) ∧ PyData.depthAll (y :: ys) ≤ 64 := by
      split at e
      · rename_i i is ei
        cases e
        have e2 := intsOf_eq ei
        cases e2
        have q1 := ints_alike (i :: is)
        refine ⟨_, rfl, (PySem.W.maxD_ints i is).symm, ⟨q1.1, fun x hx z => ?_⟩, by rw [show (PyData.int i :: List.map PyData.int is) = (i :: is).map PyData.int from rfl, q1.2]; omega⟩
        subst z
        obtain ⟨j, _, e3⟩ := List.mem_map.mp (show PyData.none ∈ (i :: is).map PyData.int from hx)
        cases e3
      · split at e
        · rename_i hz
          cases e
          exact ⟨_, rfl, rfl, alike_of hz⟩
        · cases e
    obtain ⟨_, rfl, ed, hal, hdp⟩ := both
    rw [Vals.ref1 rs]
    rcases ha with ha | ha
    · obtain ⟨its, rv, hl, _⟩ := I.list ha
      obtain ⟨as, ra⟩ := Dp.readsAll I _ _ _ (Dvs.dp _ _ k) rv
      exact PySem.W.max_list_data (I.ok.hd hc) hl.isList ra hal (by omega) fun i v h' tk bs e1 e2 e3 => pick_of I rfl rv k e1 e2 e3 (by rw [← ed]; exact q)
    · obtain ⟨its, rv, ht, _⟩ := I.tuple ha
      obtain ⟨as, ra⟩ := Dp.readsAll I _ _ _ (Dvs.dp _ _ k) rv
      exact PySem.W.max_tuple_data (I.ok.hd hc) ht ra hal (by omega) fun i v h' tk bs e1 e2 e3 => pick_of I rfl rv k e1 e2 e3 (by rw [← ed]; exact q)
  · cases e
theorem od_min (hc : X.calm = true) (hu : X.A.units + 100 < cLine) : CallR X (.builtin "min") (rC1 X.K opMin) := by
  intro pins s σ H xs us Q I rs h
  obtain ⟨x, rfl, mu, d1, d, m, h1, e, q⟩ := h
  unfold opMin at e
  split at e
  · rename_i y ys eds
    obtain ⟨a, vs, rfl, ha, k⟩ := h1.seq eds
    have both : ∃ r, d = r ∧ r = PySem.W.minD y ys ∧ PySem.W.AlikeAll (y :: ys) ∧ PyData.depthAll (y :: ys) ≤ 64 := by
      split at e
      · rename_i i is ei
        cases e
        have e2 := intsOf_eq ei
        cases e2
        have q1 := ints_alike (i :: is)
        refine ⟨_, rfl, (PySem.W.minD_ints i is).symm, ⟨q1.1, fun x hx z => ?_⟩, by rw [show (PyData.int i :: List.map PyData.int is) = (i :: is).map PyData.int from rfl, q1.2]; omega⟩
        subst z
        obtain ⟨j, _, e3⟩ := List.mem_map.mp (show PyData.none ∈ (i :: is).map PyData.int from hx)
        cases e3
      · split at e
        · rename_i hz
          cases e
          exact ⟨_, rfl, rfl, alike_of hz⟩
        · cases e
    obtain ⟨_, rfl, ed, hal, hdp⟩ := both
    rw [Vals.ref1 rs]
    rcases ha with ha | ha
    · obtain ⟨its, rv, hl, _⟩ := I.list ha
      obtain ⟨as, ra⟩ := Dp.readsAll I _ _ _ (Dvs.dp _ _ k) rv
      exact PySem.W.min_list_data (I.ok.hd hc) hl.isList ra hal (by omega) fun i v h' tk bs e1 e2 e3 => pick_of I rfl rv k e1 e2 e3 (by rw [← ed]; exact q)
    · obtain ⟨its, rv, ht, _⟩ := I.tuple ha
      obtain ⟨as, ra⟩ := Dp.readsAll I _ _ _ (Dvs.dp _ _ k) rv
      exact PySem.W.min_tuple_data (I.ok.hd hc) ht ra hal (by omega) fun i v h' tk bs e1 e2 e3 => pick_of I rfl rv k e1 e2 e3 (by rw [← ed]; exact q)
  · cases e
/-! ### isinstance, repr -/
def tyN : Ty → String
  | .int => "int"
  | .bool => "bool"
  | .tuple => "tuple"
  | .str => "str"
  | .list => "list"
theorem od_isi (t : Ty) : CallR X (.builtin "isinstance") (fun xs H Q => ∃ x, xs = [x, .ty (tyN t)] ∧ rD1 X.K (opIs t) x H Q) := by
  intro pins s σ H xs us Q I rs h
  obtain ⟨x, rfl, mu, d1, d, m, h1, e, q⟩ := h
  cases e
  cases rs with
  | cons r1 r2 =>
    rename_i u us'
    cases r2 with
    | cons r2 r3 =>
      cases r2
      cases r3
      obtain ⟨as, ra⟩ := Dp.reads I _ _ _ h1.dp r1
      have fin : ∀ tk, s.toks ≤ tk → EP X pins σ Q (.bool (isOf t d1)) { s with toks := tk } := fun tk _ => ⟨.bl _, H, I.tok _, rfl, q _ H (Grow.refl H) (.bl _)⟩
      cases t with
      | int => exact PySem.W.isinstance_int_data ra fin
      | bool => exact PySem.W.isinstance_bool_data ra fin
      | tuple => exact PySem.W.isinstance_tuple_data ra fin
      | str => exact PySem.W.isinstance_str_data ra fin
      | list => exact PySem.W.isinstance_list_data ra fin
/-! ### sorted -/
def sortOk (xs : List D) : Bool := xs.all (fun x => xs.all fun y => PySem.W.alike x y) && (xs.all (fun x => match x with | .tuple (_ :: _) => true | _ => false) || xs.all (fun x => match x with | .none => false | .tuple _ => false | _ => true)) && decide (PyData.depthAll xs ≤ 64)
def sortD (xs : List D) : List D := xs.mergeSort (PySem.W.dataLe false fun d => d)
def lSort (a : XE) : XL := fun ε => bnd (a ε) fun x => match x with
  | .list xs => if sortOk xs then ret (sortD xs) else stk
  | _ => stk
theorem sortOk_of {xs : List D} (h : sortOk xs = true) : PySem.W.AllAlike xs ∧ PySem.W.Sortable xs ∧ PyData.depthAll xs ≤ 64 := by
  simp only [sortOk, Bool.and_eq_true, List.all_eq_true, decide_eq_true_eq, Bool.or_eq_true] at h
  refine ⟨h.1.1, ?_, h.2⟩
  rcases h.1.2 with z | z
  · refine .inl fun d hd => ?_
    have := z d hd
    split at this
    · exact ⟨_, _, rfl⟩
    · cases this
  · refine .inr fun d hd => ?_
    have := z d hd
    split at this
    · cases this
    · cases this
    · rename_i n1 n2; exact ⟨fun e => n1 e, fun xs e => n2 xs e⟩
theorem depth_mem {x : D} : ∀ {xs : List D}, x ∈ xs → x.depth ≤ PyData.depthAll xs
  | y :: ys, h => by
    rw [PyData.depthAll]
    rcases List.mem_cons.mp h with rfl | h
    · exact Nat.le_max_left _ _
    · exact Nat.le_trans (depth_mem h) (Nat.le_max_right _ _)
section
open AutoSeq1 (wpAny_loadPart')
variable {prog : Program} {w : World} {A : Around} {E : Value → Shared → Prop} {s : Shared}
abbrev lstO (xs : Array Value) : Obj := { cls := .type "list", data := .seq xs 0 }
/-- the items of a list or tuple, by a list between -/
theorem collect_two {Q : List Value → Shared → Prop} {l : Addr} {o : Obj} {T : String} {xs : Array Value} {n : Nat} (hT : T = "list" ∨ T = "tuple") (ho : s.heap.get? l = some o) (hc : o.cls = .type T) (hd : o.data = .seq xs n) (hz : xs.size ≤ sizeLine)
    (h : Q xs.toList { s with heap := (s.heap.push (lstO #[])).update s.heap.objs.size (Obj.mapSeq (· ++ xs)) }) : wpAny (model prog w) A (collect (.ref l)) Q E s := by
  have h0 : (s.heap.push (lstO #[])).get? s.heap.objs.size = some (lstO #[]) := Heap.get?_push_size _ rfl
  have h1 := Heap.get?_update_self (Obj.mapSeq (· ++ xs)) h0 rfl
  have fin : ∀ A', wpAny (model prog w) A' (do let q ← load s.heap.objs.size; match q.data with | .seq ys _ => pure ys.toList | _ => unsupported "internal:collect") Q E { s with heap := (s.heap.push (lstO #[])).update s.heap.objs.size (Obj.mapSeq (· ++ xs)) } := fun A' => by
    refine wpAny_bind (wpAny_load h1 (wpAny_pure ?_))
    have e : ((#[] : Array Value) ++ xs).toList = xs.toList := by simp
    exact e ▸ h
  unfold collect
  refine wpAny_bind (wpAny_runValue (codeAny_builtin F.entry_proto_collect ?_))
  rw [Around.under_plainId F.plain_proto_collect _]
  show wpAny (model prog w) A.in1 (newList [] >>= fun q => again (.builtin "list.__iadd__" ⟨[q, .ref l], []⟩)) _ _ s
  refine wpAny_bind (wpAny_newObj_type (wpAny_pure ⟨plainId_quiet F.plain_list_iadd _, codeAny_builtin F.entry_list_iadd ?_⟩))
  rw [Around.under_plainId F.plain_list_iadd _]
  refine wpAny_mono (wpAny_extend_seq (hsz := hz) (A := A) (R := fun r s' => r = .ok (.ret (.ref s.heap.objs.size)) ∧ s' = { s with heap := (s.heap.push (lstO #[])).update s.heap.objs.size (Obj.mapSeq (· ++ xs)) })
    (s := { s with heap := s.heap.push (lstO #[]) }) _ l _ 0 hT h0 (Heap.get?_push_of_some _ ho) hc hd ⟨rfl, rfl⟩) (fun f s2 hh => ?_) fun e s2 hh => absurd hh.1 (by simp)
  cases f with
  | done f =>
    obtain ⟨e, rfl⟩ := hh
    cases e
    exact fin _
  | again c => exact ⟨hh.1, codeAny_mono hh.2 fun r s3 hr => by obtain ⟨rfl, rfl⟩ := hr; exact fin _⟩
/-- sorted of a list or tuple -/
theorem sorted_any {β : Type} {vs : List Value} {bs : List β} {enc : β → PyData} {R : Value → β → Prop} {l : Addr} {o : Obj} {T : String} {n : Nat} {Q : Value → Shared → Prop}
    (hT : T = "list" ∨ T = "tuple") (ho : s.heap.get? l = some o) (hc : o.cls = .type T) (hd : o.data = .seq vs.toArray n) (e : PySem.W.EachIs R vs bs) (er : PySem.W.EachIs (fun v b => ∃ as, Reads s.heap v (enc b) as) vs bs) (hal : PySem.W.AllAlike (bs.map enc)) (hk : PySem.W.Sortable (bs.map enc)) (hL : bs.length ≤ sizeLine)
    (hu : ∀ b, b ∈ bs → A.units + 2 + (enc b).depth < cLine) (h : ∀ out, out.length = bs.length → PySem.W.EachIs R out (bs.mergeSort (PySem.W.dataLe false enc)) → Q (.ref (s.heap.objs.size + 1)) { s with heap := PyProof.Rows.sortedAll s.heap vs (List.toArray out) }) :
    wpAny (model prog w) A (call (.builtin "sorted") [.ref l]) Q E s := by
  have hv : vs.length ≤ sizeLine := by rw [e.length]; exact hL
  refine call_function_entry_kw PyProof.Rows.kind_sorted PyProof.Rows.plain_sorted PyProof.Rows.entry_sorted (PyProof.Rows.args_sorted1 _) ?_
  unfold Builtin.«sorted»
  refine wpAny_bind (m := checkCount "sorted" 1 1 _) (wpAny_pure (wpAny_bind (collect_two hT ho hc hd (by simpa using hv) (wpAny_bind (wpAny_newList ?_ (by simpa using hv))))))
  have hsz : ((s.heap.push (lstO #[])).update s.heap.objs.size (Obj.mapSeq (· ++ vs.toArray))).objs.size = s.heap.objs.size + 1 := by rw [Heap.size_update, Heap.size_push]
  show wpAny _ _ _ _ _ { s with heap := PySem.W.copyHeap s.heap vs }
  rw [hsz]
  have er2 : PySem.W.EachIs (fun v b => ∃ as, Reads (PySem.W.sortingHeap (PySem.W.copyHeap s.heap vs) (s.heap.objs.size + 1) vs) v (enc b) as) vs bs := er.mono fun _ _ ⟨as, r⟩ => ⟨as, PyProof.Rows.Reads.keeps (fun _ _ => PySem.W.sorting_copy_old) r⟩
  have srt := PySem.W.SortsAt.data (prog := prog) (w := w) (A := A.in1.in1) (s := { s with heap := PySem.W.sortingHeap (PySem.W.copyHeap s.heap vs) (s.heap.objs.size + 1) vs }) (PySem.W.each_map (R := fun v d => ∃ as, Reads (PySem.W.sortingHeap (PySem.W.copyHeap s.heap vs) (s.heap.objs.size + 1) vs) v d as) enc er2) hal hk (PySem.W.bound_map hu)
  refine wpAny_bind (wpAny_holding (wpAny_call_entry_kw PyProof.Rows.slot_list_sort ⟨_, PySem.W.copyHeap_at s.heap vs, rfl⟩ PyProof.Rows.entry_list_sort ?body (PyProof.Rows.args_list_sort _)))
  case body =>
    refine wpAny_mono (PySem.W.list_sort_vals (s := { s with heap := PySem.W.copyHeap s.heap vs }) (P := fun f s' => f = .done (.ret .none) ∧ Q (.ref (s.heap.objs.size + 1)) s') (PySem.W.copyHeap_at s.heap vs) srt hv ⟨rfl, h _ (by rw [PySem.W.sortVals_length false rfl]; exact e.length) (PySem.W.sortVals_data false e er2 hal)⟩) (fun f s2 hf => ?_) fun _ _ e => e
    obtain ⟨rfl, hq⟩ := hf
    exact ⟨_, rfl, wpAny_pure ⟨_, rfl, hq⟩⟩
end
/-- a new list of what may be read -/
def rL1 (K : PySem.W.Frag) (g : D → Option (List D)) : List V → Hp → VK → Prop := fun xs H Q => ∃ x, xs = [x] ∧ ∃ mu d1 ds, (∀ a, mu a → H a ≠ none) ∧ Rv K H mu x d1 ∧ g d1 = some ds ∧ ∀ p vs, H p = none → Dvs K H mu vs ds → Q (.ref p) (upd H p (.lst vs))
def gSort : D → Option (List D)
  | .list xs => if sortOk xs then some (sortD xs) else none
  | .tuple xs => if sortOk xs then some (sortD xs) else none
  | _ => none
theorem each_dvs {K : PySem.W.Frag} {H : Hp} {mu : Addr → Prop} : ∀ {us : List Value} {ds : List D}, PySem.W.EachIs (fun u d => ∃ v, RelV v u ∧ Dv K H mu v d) us ds → ∃ vs, Vals vs us ∧ Dvs K H mu vs ds
  | _, _, .nil => ⟨[], .nil, .nil⟩
  | _, _, .cons h t => by
    obtain ⟨v, r, d⟩ := h
    obtain ⟨vs, rs, ds⟩ := each_dvs t
    exact ⟨v :: vs, .cons r rs, .cons d ds⟩
theorem dvs_each {K : PySem.W.Frag} {H : Hp} {mu : Addr → Prop} : ∀ {vs : List V} {us : List Value} {ds : List D}, Vals vs us → Dvs K H mu vs ds → PySem.W.EachIs (fun u d => ∃ v, RelV v u ∧ Dv K H mu v d) us ds
  | _, _, _, .nil, h => by cases h; exact .nil
  | _, _, _, .cons r t, h => by
    cases h with
    | cons h1 h2 => exact .cons ⟨_, r, h1⟩ (dvs_each t h2)
theorem od_sort (hu : X.A.units + 100 < cLine) : CallR X (.builtin "sorted") (rL1 X.K gSort) := by
  intro pins s σ H xs us Q I rs h
  obtain ⟨x, rfl, mu, d1, ds, m, h1, e, q⟩ := h
  have key : ∀ (zs : List D) (a : Addr) (ys : List V) (its : List Value) (o : Obj) (T : String) (n : Nat), x = .ref a → Dvs X.K H mu ys zs → Vals ys its → (T = "list" ∨ T = "tuple") → s.heap.get? a = some o → o.cls = .type T → o.data = .seq its.toArray n → ys.length ≤ sizeLine → sortOk zs = true → ds = sortD zs →
      wpAny (model X.prog X.w) X.A (call (.builtin "sorted") us) (EP X pins σ Q) X.xe s := by
    intro zs a ys its o T n ex k rv hT ho hc hd hsz hz eds
    subst ex eds
    obtain ⟨z1, z2, z3⟩ := sortOk_of hz
    rw [Vals.ref1 rs]
    have ee := dvs_each rv k
    have em : (zs.map fun d => d) = zs := List.map_id' zs
    refine sorted_any (enc := fun d => d) (bs := zs) hT ho hc hd ee (ee.mono fun u d ⟨v, r, dv⟩ => Dp.reads I _ _ _ (Dv.dp _ _ dv) r) (by rw [em]; exact z1) (by rw [em]; exact z2) (by rw [← k.len]; exact hsz) (fun b hb => by have := depth_mem hb; omega) fun out hlen hout => ?_
    obtain ⟨vs, r2, k2⟩ := each_dvs hout
    obtain ⟨ep, he'⟩ := PyProof.Rows.sortedAll_at s.heap its out.toArray
    have hf : H (s.heap.objs.size + 1) = none := I.hok.fresh (Nat.le_succ _)
    have hlen2 : vs.length ≤ sizeLine := by rw [r2.length, hlen, ← k.len]; exact hsz
    exact ⟨.ref _, upd H (s.heap.objs.size + 1) (.lst vs), I.laid (t' := s.toks) (fun _ _ => PyProof.Rows.sortedAll_old) (Nat.le_succ _) ⟨hlen2, out, ep, r2, he'⟩, rfl, q _ vs hf k2⟩
  unfold gSort at e
  split at e
  · rename_i zs
    split at e
    · rename_i hz
      cases e
      obtain ⟨a, ys, rfl, ha, k⟩ := h1.lst
      obtain ⟨its, rv, hl, hsz⟩ := I.list ha
      obtain ⟨o, ho, hc, n, hd⟩ := hl.isList
      exact key zs a ys its o "list" n rfl k rv (.inl rfl) ho hc hd hsz hz rfl
    · cases e
  · rename_i zs
    split at e
    · rename_i hz
      cases e
      obtain ⟨a, ys, rfl, ha, k⟩ := h1.tup
      obtain ⟨its, rv, hl, hsz⟩ := I.tuple ha
      obtain ⟨o, ho, hc, n, hd⟩ := hl
      exact key zs a ys its o "tuple" n rfl k rv (.inr rfl) ho hc hd hsz hz rfl
    · cases e
  · cases e
end
end Tn
end

section
set_option Elab.async false
set_option linter.all false
set_option maxRecDepth 100000
set_option maxHeartbeats 1000000
namespace Tn
open PySem PySem.Spec PyProof.Rows L2
variable [TB]
/-! ### a new list's reading; what is walked -/
def tL (K : PySem.W.Frag) (mg : Str → Option Value) (W : WX) (f : XL) : TE := fun σ H Q =>
  ∃ w ε S, Rp K w ε S σ H ∧ OutM K mg W w ε σ H (f ε S) fun ds io' _ H' => ∀ p vs, H' p = none → Dvs K H' (w.at io').mu vs ds → Q (.ref p) (upd H' p (.lst vs))
structure DL (X : Cx) (W : WX) (e : Expr) (f : XL) : Prop where
  pe : PE X e (tL X.K X.mg W f)
def Yld (K : PySem.W.Frag) (J : It) (w : Wd) (H : Hp) (items : List D) : Prop := items.length ≤ sizeLine ∧ ∀ (i : Nat) (w2 : Wd) (H2 : Hp), Exw w H w2 H2 → (∀ a, w2.mu a → Kz H2 a) →
  (∀ d, items[i]? = some d → J.go i H2 ∧ ∀ x H3, J.yld i H2 x H3 → Grow H2 H3 ∧ Dv K H3 w2.mu x d) ∧ (items.length ≤ i → J.stop i H2)
def tI (K : PySem.W.Frag) (mg : Str → Option Value) (W : WX) (f : XL) : TI := fun σ H R =>
  ∃ w ε S, Rp K w ε S σ H ∧ OutM K mg W w ε σ H (f ε S) fun items io' _ H' => ∀ J, Yld K J (w.at io') H' items → R J H'
structure DI (X : Cx) (W : WX) (tg e : Expr) (f : XL) : Prop where
  pi : PI X tg e (tI X.K X.mg W f)
section
variable {X : Cx} {W : WX} {e a b c : Expr} {es : List Expr} {fa fb fc : XE} {pos : Pos}
theorem OutM.lft {α : Type} {K : PySem.W.Frag} {mg : Str → Option Value} {w : Wd} {ε : Ev} {S : List D} {σ : L2.St} {H : Hp} {o : Option α} {P : α → List Addr → List D → Hp → Prop} (h : OutM K mg W w ε σ H (lft o S) P) (r : Rp K w ε S σ H) :
    ∃ a, o = some a ∧ ∀ H', Grow H H' → P a w.io S H' := by
  cases o with
  | none => exact h.elim
  | some a => exact ⟨a, rfl, fun H' g => h w.io H' (r.grow g) g.exx⟩
/-! ### constants and names -/
theorem tE_const {K : PySem.W.Frag} {mg : Str → Option Value} {d : D} {v : V} (hd : ∀ H mu, Dv K H mu v d) (h : PE X e (tC v)) : PE X e (tE K mg W (xK d)) :=
  h.weak fun σ H Q ⟨w, ε, S, r, o⟩ => (o.ret r) v (hd _ _)
theorem de_int {i : Int} {j : Nat} : DE X W (.Constant (.int i) j pos) (xK (.int i)) := ⟨tE_const (fun _ _ => .int i) pe_int⟩
theorem de_bl {i : Bool} {j : Nat} : DE X W (.Constant (.bool i) j pos) (xK (.bool i)) := ⟨tE_const (fun _ _ => .bl i) pe_bl⟩
theorem de_non {j : Nat} : DE X W (.Constant .none j pos) (xK .none) := ⟨tE_const (fun _ _ => .non) pe_non⟩
theorem de_str {x : Str} {j : Nat} (h : PyData.strOk x = true := by decide +kernel) : DE X W (.Constant (.str x) j pos) (xK (.str x)) := ⟨tE_const (fun _ _ => .str x h) pe_str⟩
theorem de_v {i : Nat} {x : Str} (hN : X.N[i]? = some x) (hv : Vis X.env.scope x) (hd : (x == ("__debug__" : Str)) = false := by decide) (hcd : (x == ("__classdict__" : Str)) = false := by decide) : DE X W (.Name x pos) (xV i) := by
  refine ⟨(pe_var hN hv hd hcd).weak fun σ H Q ⟨w, ε, S, r, o⟩ => ?_⟩
  unfold xV at o
  cases e : ε[i]? with
  | none => rw [e] at o; exact o.elim
  | some s =>
    rw [e] at o
    cases s with
    | sh d =>
      obtain ⟨q, h1, h2⟩ := r.sl i _ e
      obtain ⟨_, v, rfl, dv⟩ := h2
      exact ⟨v, h1, (o.ret r) v dv⟩
    | _ => exact o.elim
/-- a module's constant -/
theorem de_g {x : Str} {u : Value} {v : V} {d : D} (hg : Gl X x) (hm : X.mg x = some u) (r : RelV v u) (hd : ∀ H mu, Dv X.K H mu v d) (hdb : (x == ("__debug__" : Str)) = false := by decide) : DE X W (.Name x pos) (xK d) :=
  ⟨tE_const hd (pe_glob hg hm r hdb)⟩
/-! ### operations -/
theorem ed1 {K : PySem.W.Frag} {mg : Str → Option Value} {g : D → Option D} {w : Wd} {ε : Ev} {S : List D} {σ : L2.St} {H : Hp} {Q : VK} {x : V} {d1 : D} (r : Rp K w ε S σ H)
    (o : OutM K mg W w ε σ H (lft (g d1) S) fun d io' _ H' => ∀ v, Dv K H' (w.at io').mu v d → Q v H') (h : Rv K H w.mu x d1) : rD1 K g x H Q := by
  obtain ⟨d, e, k⟩ := o.lft r
  exact ⟨w.mu, d1, d, fun a z => r.muh z, h, e, fun v H' g dv => k H' g v dv⟩
theorem ed2 {K : PySem.W.Frag} {mg : Str → Option Value} {g : D → D → Option D} {w : Wd} {ε : Ev} {S : List D} {σ : L2.St} {H : Hp} {Q : VK} {x y : V} {d1 d2 : D} (r : Rp K w ε S σ H)
    (o : OutM K mg W w ε σ H (lft (g d1 d2) S) fun d io' _ H' => ∀ v, Dv K H' (w.at io').mu v d → Q v H') (h : Rv K H w.mu x d1) (h2 : Rv K H w.mu y d2) : rD2 K g x y H Q := by
  obtain ⟨d, e, k⟩ := o.lft r
  exact ⟨w.mu, d1, d2, d, fun a z => r.muh z, h, h2, e, fun v H' g dv => k H' g v dv⟩
/-- two pieces, then an operation -/
theorem tE_x2 {K : PySem.W.Frag} {mg : Str → Option Value} {g : D → D → Option D} {r : R2} (hr : ∀ x y H Q, rD2 K g x y H Q → r x y H Q) : ∀ σ H Q, tE K mg W (x2 g fa fb) σ H Q → tOp r (tE K mg W fa) (tE K mg W fb) σ H Q := by
  intro σ H Q ⟨w, ε, S, rp, o⟩
  refine ⟨w, ε, S, rp, (OutM.bnd o).imp fun d1 io1 S1 H1 r1 x1 o1 x hx => ⟨w.at io1, ε, S1, r1, (OutM.bnd o1).imp fun d2 io2 S2 H2 r2 x2 o2 y hy => hr _ _ _ _ (ed2 r2 o2 (.inl (hx.exx x2)) (.inl hy))⟩⟩
theorem de_x2 {op : Operator} {g : D → D → Option D} (ho : OpR X (binaryOp op) (rD2 X.K g)) (ha : DE X W a fa) (hb : DE X W b fb) : DE X W (.BinOp a op b pos) (x2 g fa fb) :=
  ⟨(pe_op ho ha.pe hb.pe).weak (tE_x2 fun _ _ _ _ h => h)⟩
theorem de_cmp {op : CmpOp} {g : D → D → Option D} (ho : OpR X (compareOp op) (rD2 X.K g)) (ha : DE X W a fa) (hb : DE X W b fb) (hm : behindInMarks op b = false) : DE X W (.Compare a [op] [b] pos) (x2 g fa fb) :=
  ⟨(pe_cmpR ho ha.pe hb.pe hm).weak (tE_x2 fun _ _ _ _ h => h)⟩
theorem de_ix {g : D → D → Option D} (ho : IxR X (rD2 X.K g)) (ha : DE X W a fa) (hb : DE X W b fb) (hs : PlainIx b) : DE X W (.Subscript a b pos) (x2 g fa fb) :=
  ⟨(pe_ix ho ha.pe hb.pe hs).weak (tE_x2 fun _ _ _ _ h => h)⟩
theorem de_isx {op : CmpOp} {g : D → Option D} {j : Nat} {pos2 : Pos} (ho : OpR X (compareOp op) (fun x y H Q => y = .non ∧ rD1 X.K g x H Q)) (ha : DE X W a fa) (hm : behindInMarks op (.Constant .none j pos2) = false) : DE X W (.Compare a [op] [.Constant .none j pos2] pos) (x1 g fa) := by
  refine ⟨(pe_cmpR ho ha.pe pe_non hm).weak fun σ H Q ⟨w, ε, S, rp, o⟩ => ?_⟩
  exact ⟨w, ε, S, rp, (OutM.bnd o).imp fun d1 io1 S1 H1 r1 x1 o1 x hx => ⟨rfl, ed1 r1 o1 (.inl hx)⟩⟩
theorem de_un {op : UnaryOp} {g : D → Option D} (ho : UnR X (unaryOp op) (rD1 X.K g)) (ha : DE X W a fa) : DE X W (.UnaryOp op a pos) (x1 g fa) := by
  refine ⟨(pe_un ho ha.pe).weak fun σ H Q ⟨w, ε, S, rp, o⟩ => ?_⟩
  exact ⟨w, ε, S, rp, (OutM.bnd o).imp fun d1 io1 S1 H1 r1 x1 o1 x hx => ed1 r1 o1 (.inl hx)⟩
/-! ### operands that are read in place -/
/-- a name's value now -/
theorem slot_rv {K : PySem.W.Frag} {mg : Str → Option Value} {w : Wd} {ε : Ev} {S : List D} {σ : L2.St} {H : Hp} {i : Nat} {P : D → List Addr → List D → Hp → Prop} (r : Rp K w ε S σ H) (o : OutM K mg W w ε σ H (xB i ε S) P) :
    ∃ v d, σ[i]? = some (some v) ∧ Rv K H w.mu v d ∧ P d w.io S H := by
  unfold xB at o
  cases e : ε[i]? with
  | none => rw [e] at o; exact o.elim
  | some s =>
    rw [e] at o
    obtain ⟨q, h1, h2⟩ := r.sl i _ e
    cases s with
    | un => exact o.elim
    | sh d => obtain ⟨_, v, rfl, dv⟩ := h2; exact ⟨v, d, h1, .inl dv, o.ret r⟩
    | ow d => obtain ⟨a, _, rfl, ob⟩ := h2; exact ⟨_, d, h1, .inr ⟨a, rfl, ob⟩, o.ret r⟩
    | lk d => exact o.elim
    | sc d => exact o.elim
    | rf n =>
      obtain ⟨_, a, rfl, hn⟩ := h2
      cases e2 : S[n]? with
      | none => simp only [e2] at o; exact o.elim
      | some d => simp only [e2] at o; exact ⟨_, d, h1, .inr ⟨a, rfl, r.st n a d hn e2⟩, o w.io H r (Exx.refl w H)⟩
def has (ε : Ev) (i : Nat) : Bool := match ε[i]? with
  | some .un => false
  | none => false
  | _ => true
theorem slot_at {K : PySem.W.Frag} {w : Wd} {ε : Ev} {S : List D} {σ : L2.St} {H : Hp} {i : Nat} (r : Rp K w ε S σ H) (h : has ε i = true) : ∃ v, σ[i]? = some (some v) := by
  unfold has at h
  cases e : ε[i]? with
  | none => rw [e] at h; cases h
  | some s =>
    rw [e] at h
    obtain ⟨q, h1, h2⟩ := r.sl i _ e
    cases s with
    | un => cases h
    | sh d => obtain ⟨_, v, rfl, _⟩ := h2; exact ⟨v, h1⟩
    | rf n => obtain ⟨_, a, rfl, _⟩ := h2; exact ⟨_, h1⟩
    | ow d => obtain ⟨a, _, rfl, _⟩ := h2; exact ⟨_, h1⟩
    | lk d => obtain ⟨a, _, rfl, _⟩ := h2; exact ⟨_, h1⟩
    | sc d => obtain ⟨_, ⟨a, _, _, rfl, _⟩ | ⟨a, _, rfl, _⟩⟩ := h2 <;> exact ⟨_, h1⟩
/-- g(x), x a name; g(x, e); g(e, x) -/
def x1B (g : D → Option D) (i : Nat) : XE := fun ε => bnd (xB i ε) fun d => lft (g d)
def x2L (g : D → D → Option D) (i : Nat) (b : XE) : XE := fun ε => if has ε i then bnd (b ε) fun y => bnd (xB i ε) fun x => lft (g x y) else stk
def x2R (g : D → D → Option D) (a : XE) (i : Nat) : XE := fun ε => bnd (a ε) fun x => bnd (xB i ε) fun y => lft (g x y)
def x2B (g : D → D → Option D) (i j : Nat) : XE := fun ε => bnd (xB i ε) fun x => bnd (xB j ε) fun y => lft (g x y)
theorem tE_2L {K : PySem.W.Frag} {mg : Str → Option Value} {g : D → D → Option D} {i : Nat} : ∀ σ H Q, tE K mg W (x2L g i fb) σ H Q → tOp (rD2 K g) (tVar i) (tE K mg W fb) σ H Q := by
  intro σ H Q ⟨w, ε, S, rp, o⟩
  unfold x2L at o
  by_cases hh : has ε i = true
  · rw [if_pos hh] at o
    obtain ⟨v, hv⟩ := slot_at rp hh
    refine ⟨v, hv, w, ε, S, rp, (OutM.bnd o).imp fun d1 io1 S1 H1 r1 x1 o1 y hy => ?_⟩
    obtain ⟨v', d, e1, e2, o2⟩ := slot_rv r1 (OutM.bnd o1)
    rw [hv] at e1; cases e1
    exact ed2 r1 o2 e2 (.inl hy)
  · rw [if_neg hh] at o; exact o.elim
theorem tE_2R {K : PySem.W.Frag} {mg : Str → Option Value} {g : D → D → Option D} {i : Nat} : ∀ σ H Q, tE K mg W (x2R g fa i) σ H Q → tOp (rD2 K g) (tE K mg W fa) (tVar i) σ H Q := by
  intro σ H Q ⟨w, ε, S, rp, o⟩
  refine ⟨w, ε, S, rp, (OutM.bnd o).imp fun d1 io1 S1 H1 r1 x1 o1 x hx => ?_⟩
  obtain ⟨v, d, e1, e2, o2⟩ := slot_rv r1 (OutM.bnd o1)
  exact ⟨v, e1, ed2 r1 o2 (.inl hx) e2⟩
theorem tE_2B {K : PySem.W.Frag} {mg : Str → Option Value} {g : D → D → Option D} {i j : Nat} : ∀ σ H Q, tE K mg W (x2B g i j) σ H Q → tOp (rD2 K g) (tVar i) (tVar j) σ H Q := by
  intro σ H Q ⟨w, ε, S, rp, o⟩
  obtain ⟨v, d, e1, e2, o1⟩ := slot_rv rp (OutM.bnd o)
  obtain ⟨v2, d2, e3, e4, o2⟩ := slot_rv rp (OutM.bnd o1)
  exact ⟨v, e1, v2, e3, ed2 rp o2 e2 e4⟩
theorem tE_1B {K : PySem.W.Frag} {mg : Str → Option Value} {g : D → Option D} {i : Nat} : ∀ σ H Q, tE K mg W (x1B g i) σ H Q → tVar i σ H fun x H1 => rD1 K g x H1 Q := by
  intro σ H Q ⟨w, ε, S, rp, o⟩
  obtain ⟨v, d, e1, e2, o1⟩ := slot_rv rp (OutM.bnd o)
  exact ⟨v, e1, ed1 rp o1 e2⟩
section
variable {i j : Nat} {x y : Str} {p1 p2 : Pos}
theorem pvar (hN : X.N[i]? = some x) (hv : Vis X.env.scope x) (hd : (x == ("__debug__" : Str)) = false := by decide) (hcd : (x == ("__classdict__" : Str)) = false := by decide) : PE X (.Name x p1) (tVar i) := pe_var hN hv hd hcd
theorem de_2L {op : Operator} {g : D → D → Option D} (ho : OpR X (binaryOp op) (rD2 X.K g)) (ha : PE X a (tVar i)) (hb : DE X W b fb) : DE X W (.BinOp a op b pos) (x2L g i fb) := ⟨(pe_op ho ha hb.pe).weak tE_2L⟩
theorem de_2R {op : Operator} {g : D → D → Option D} (ho : OpR X (binaryOp op) (rD2 X.K g)) (ha : DE X W a fa) (hb : PE X b (tVar i)) : DE X W (.BinOp a op b pos) (x2R g fa i) := ⟨(pe_op ho ha.pe hb).weak tE_2R⟩
theorem de_2B {op : Operator} {g : D → D → Option D} (ho : OpR X (binaryOp op) (rD2 X.K g)) (ha : PE X a (tVar i)) (hb : PE X b (tVar j)) : DE X W (.BinOp a op b pos) (x2B g i j) := ⟨(pe_op ho ha hb).weak tE_2B⟩
theorem de_cmpL {op : CmpOp} {g : D → D → Option D} (ho : OpR X (compareOp op) (rD2 X.K g)) (ha : PE X a (tVar i)) (hb : DE X W b fb) (hm : behindInMarks op b = false) : DE X W (.Compare a [op] [b] pos) (x2L g i fb) := ⟨(pe_cmpR ho ha hb.pe hm).weak tE_2L⟩
theorem de_cmpRt {op : CmpOp} {g : D → D → Option D} (ho : OpR X (compareOp op) (rD2 X.K g)) (ha : DE X W a fa) (hb : PE X b (tVar i)) (hm : behindInMarks op b = false) : DE X W (.Compare a [op] [b] pos) (x2R g fa i) := ⟨(pe_cmpR ho ha.pe hb hm).weak tE_2R⟩
theorem de_cmpB {op : CmpOp} {g : D → D → Option D} (ho : OpR X (compareOp op) (rD2 X.K g)) (ha : PE X a (tVar i)) (hb : PE X b (tVar j)) (hm : behindInMarks op b = false) : DE X W (.Compare a [op] [b] pos) (x2B g i j) := ⟨(pe_cmpR ho ha hb hm).weak tE_2B⟩
theorem de_ixL {g : D → D → Option D} (ho : IxR X (rD2 X.K g)) (ha : PE X a (tVar i)) (hb : DE X W b fb) (hs : PlainIx b) : DE X W (.Subscript a b pos) (x2L g i fb) := ⟨(pe_ix ho ha hb.pe hs).weak tE_2L⟩
end
/-! ### lists of pieces, displays -/
theorem des_nil : DEs X W [] xs0 := ⟨pa_nil.weak fun σ H Q ⟨w, ε, S, r, o⟩ => (o.ret r) [] .nil⟩
theorem des_cons {f : XE} {l : XL} (ha : DE X W e f) (hr : DEs X W es l) (hs : starEach (e :: es) X.env = (false, eval e X.env) :: starEach es X.env := by rfl) : DEs X W (e :: es) (xsC f l) := by
  refine ⟨(pa_cons ha.pe hr.pa hs).weak fun σ H Q ⟨w, ε, S, r, o⟩ => ?_⟩
  refine ⟨w, ε, S, r, (OutM.bnd o).imp fun d1 io1 S1 H1 r1 x1 o1 x hx => ⟨w.at io1, ε, S1, r1, (OutM.bnd o1).imp fun ds io2 S2 H2 r2 x2 o2 xs hxs => (o2.ret r2) _ (.cons (hx.exx x2) hxs)⟩⟩
theorem OutM.ite {α : Type} {K : PySem.W.Frag} {mg : Str → Option Value} {w : Wd} {ε : Ev} {S : List D} {σ : L2.St} {H : Hp} {c : Prop} [Decidable c] {m : M α} {P : α → List Addr → List D → Hp → Prop}
    (o : OutM K mg W w ε σ H ((if c then m else stk) S) P) : c ∧ OutM K mg W w ε σ H (m S) P := by
  by_cases h : c
  · rw [if_pos h] at o; exact ⟨h, o⟩
  · rw [if_neg h] at o; exact o.elim
theorem de_tup {l : XL} {k : Nat} (h : DEs X W es l) : DE X W (.Tuple es k pos) (xTup l) := by
  refine ⟨(pe_tup h.pa).weak fun σ H Q ⟨w, ε, S, r, o⟩ => ?_⟩
  refine ⟨w, ε, S, r, (OutM.bnd o).imp fun ds io1 S1 H1 r1 x1 o1 vs hv => ?_⟩
  obtain ⟨hz, o1⟩ := o1.ite
  refine ⟨by rw [hv.len]; exact Nat.le_trans hz big_le, fun p hp => ?_⟩
  exact o1 io1 _ (r1.grow (Grow.upd hp)) (Grow.upd hp).exx _ (new_tup (fun a z => r1.muh z) hp hv)
theorem dl_disp {l : XL} (h : DEs X W es l) : DL X W (.List es pos) (lDisp l) := by
  refine ⟨(pe_lst h.pa).weak fun σ H Q ⟨w, ε, S, r, o⟩ => ?_⟩
  refine ⟨w, ε, S, r, (OutM.bnd o).imp fun ds io1 S1 H1 r1 x1 o1 vs hv => ?_⟩
  obtain ⟨hz, o1⟩ := o1.ite
  exact ⟨by rw [hv.len]; exact Nat.le_trans hz big_le, fun p hp => o1.ret r1 p vs hp hv⟩
/-- a new list that nobody changes from here on -/
theorem de_fz {l : XL} (h : DL X W e l) : DE X W e (xFz l) := by
  refine ⟨h.pe.weak fun σ H Q ⟨w, ε, S, r, o⟩ => ?_⟩
  refine ⟨w, ε, S, r, (OutM.bnd o).imp fun ds io1 S1 H1 r1 x1 o1 p vs hp hv => ?_⟩
  exact o1 io1 _ (r1.grow (Grow.upd hp)) (Grow.upd hp).exx _ (new_lst (fun a z => r1.muh z) hp hv)
/-! ### calls of built-ins -/
theorem de_c1 {g : D → Option D} {nm : Str} {id : String} {p : Pos} (ho : CallR X (.builtin id) (rC1 X.K g)) (hg : Gl X nm) (hm : X.mg nm = none) (hv : bootBuiltins nm = some (.builtin id)) (ha : DE X W a fa) (hn : nm ≠ "__name__" := by decide) (hdb : (nm == ("__debug__" : Str)) = false := by decide)
    (he : starEach [a] X.env = (false, eval a X.env) :: starEach [] X.env := by rfl) : DE X W (.Call (.Name nm p) [a] [] pos) (x1 g fa) := by
  refine ⟨(pe_callB ho hg hm hv (pa_cons ha.pe pa_nil he) hn hdb he (by rfl)).weak fun σ H Q ⟨w, ε, S, rp, o⟩ => ?_⟩
  exact ⟨w, ε, S, rp, (OutM.bnd o).imp fun d1 io1 S1 H1 r1 x1 o1 x hx => ⟨x, rfl, ed1 r1 o1 (.inl hx)⟩⟩
theorem de_c1B {g : D → Option D} {nm : Str} {id : String} {p : Pos} {i : Nat} (ho : CallR X (.builtin id) (rC1 X.K g)) (hg : Gl X nm) (hm : X.mg nm = none) (hv : bootBuiltins nm = some (.builtin id)) (ha : PE X a (tVar i)) (hn : nm ≠ "__name__" := by decide) (hdb : (nm == ("__debug__" : Str)) = false := by decide)
    (he : starEach [a] X.env = (false, eval a X.env) :: starEach [] X.env := by rfl) : DE X W (.Call (.Name nm p) [a] [] pos) (x1B g i) := by
  refine ⟨(pe_callB ho hg hm hv (pa_cons ha pa_nil he) hn hdb he (by rfl)).weak fun σ H Q h => ?_⟩
  obtain ⟨v, e1, q⟩ := tE_1B σ H Q h
  exact ⟨v, e1, v, rfl, q⟩
theorem de_t1 {g : D → Option D} {nm : Str} {T : String} {p : Pos} (ho : CallR X (.type T) (rC1 X.K g)) (hg : Gl X nm) (hm : X.mg nm = none) (hv : bootBuiltins nm = some (.type T)) (ha : DE X W a fa) (hn : nm ≠ "__name__" := by decide) (hdb : (nm == ("__debug__" : Str)) = false := by decide)
    (he : starEach [a] X.env = (false, eval a X.env) :: starEach [] X.env := by rfl) : DE X W (.Call (.Name nm p) [a] [] pos) (x1 g fa) := by
  refine ⟨(pe_callTy ho hg hm hv (pa_cons ha.pe pa_nil he) hn hdb he (by rfl)).weak fun σ H Q ⟨w, ε, S, rp, o⟩ => ?_⟩
  exact ⟨w, ε, S, rp, (OutM.bnd o).imp fun d1 io1 S1 H1 r1 x1 o1 x hx => ⟨x, rfl, ed1 r1 o1 (.inl hx)⟩⟩
theorem de_t1B {g : D → Option D} {nm : Str} {T : String} {p : Pos} {i : Nat} (ho : CallR X (.type T) (rC1 X.K g)) (hg : Gl X nm) (hm : X.mg nm = none) (hv : bootBuiltins nm = some (.type T)) (ha : PE X a (tVar i)) (hn : nm ≠ "__name__" := by decide) (hdb : (nm == ("__debug__" : Str)) = false := by decide)
    (he : starEach [a] X.env = (false, eval a X.env) :: starEach [] X.env := by rfl) : DE X W (.Call (.Name nm p) [a] [] pos) (x1B g i) := by
  refine ⟨(pe_callTy ho hg hm hv (pa_cons ha pa_nil he) hn hdb he (by rfl)).weak fun σ H Q h => ?_⟩
  obtain ⟨v, e1, q⟩ := tE_1B σ H Q h
  exact ⟨v, e1, v, rfl, q⟩
theorem de_c2 {g : D → D → Option D} {nm : Str} {id : String} {p : Pos} (ho : CallR X (.builtin id) (rC2 X.K g)) (hg : Gl X nm) (hm : X.mg nm = none) (hv : bootBuiltins nm = some (.builtin id)) (ha : DE X W a fa) (hb : DE X W b fb) (hn : nm ≠ "__name__" := by decide) (hdb : (nm == ("__debug__" : Str)) = false := by decide)
    (he : starEach [a, b] X.env = (false, eval a X.env) :: starEach [b] X.env := by rfl) (he2 : starEach [b] X.env = (false, eval b X.env) :: starEach [] X.env := by rfl) : DE X W (.Call (.Name nm p) [a, b] [] pos) (x2 g fa fb) := by
  refine ⟨(pe_callB ho hg hm hv (pa_cons ha.pe (pa_cons hb.pe pa_nil he2) he) hn hdb he (by rw [he2]; rfl)).weak fun σ H Q ⟨w, ε, S, rp, o⟩ => ?_⟩
  exact ⟨w, ε, S, rp, (OutM.bnd o).imp fun d1 io1 S1 H1 r1 x1 o1 x hx => ⟨w.at io1, ε, S1, r1, (OutM.bnd o1).imp fun d2 io2 S2 H2 r2 x2 o2 y hy => ⟨x, y, rfl, ed2 r2 o2 (.inl (hx.exx x2)) (.inl hy)⟩⟩⟩
theorem de_isi {t : Ty} {tn : Str} {p p2 : Pos} (hg : Gl X "isinstance") (hm : X.mg "isinstance" = none) (hg2 : Gl X tn) (hm2 : X.mg tn = none) (hv2 : bootBuiltins tn = some (.type (tyN t))) (ha : DE X W a fa) (hn2 : tn ≠ "__name__" := by decide) (hdb2 : (tn == ("__debug__" : Str)) = false := by decide)
    (he : starEach [a, .Name tn p2] X.env = (false, eval a X.env) :: starEach [.Name tn p2] X.env := by rfl) : DE X W (.Call (.Name "isinstance" p) [a, .Name tn p2] [] pos) (x1 (opIs t) fa) := by
  have hb : PE X (.Name tn p2) (tC (.ty (tyN t))) := pe_bltn hg2 hm2 hv2 rfl hn2 hdb2
  refine ⟨(pe_callB (od_isi t) hg hm (by decide +kernel) (pa_cons ha.pe (pa_cons hb pa_nil) he) (by decide) (by decide) he (by rfl)).weak fun σ H Q ⟨w, ε, S, rp, o⟩ => ?_⟩
  exact ⟨w, ε, S, rp, (OutM.bnd o).imp fun d1 io1 S1 H1 r1 x1 o1 x hx => ⟨x, rfl, ed1 r1 o1 (.inl hx)⟩⟩
theorem rL_of {K : PySem.W.Frag} {mg : Str → Option Value} {g : D → Option (List D)} {w : Wd} {ε : Ev} {S : List D} {σ : L2.St} {H : Hp} {Q : VK} {x : V} {d1 : D} (r : Rp K w ε S σ H)
    (o : OutM K mg W w ε σ H (lft (g d1) S) fun ds io' _ H' => ∀ p vs, H' p = none → Dvs K H' (w.at io').mu vs ds → Q (.ref p) (upd H' p (.lst vs))) (h : Rv K H w.mu x d1) : rL1 K g [x] H Q := by
  obtain ⟨ds, e, k⟩ := o.lft r
  exact ⟨x, rfl, w.mu, d1, ds, fun a z => r.muh z, h, e, fun p vs hp hv => k H (Grow.refl H) p vs hp hv⟩
def l1 (g : D → Option (List D)) (a : XE) : XL := fun ε => bnd (a ε) fun x => lft (g x)
def l1B (g : D → Option (List D)) (i : Nat) : XL := fun ε => bnd (xB i ε) fun x => lft (g x)
theorem od_list : CallR X (.type "list") (rL1 X.K seqOf) := by
  refine Tn.CallR.weak call_list_of fun xs H Q ⟨x, ex, mu, d1, ds, m, h1, e, q⟩ => ?_
  subst ex
  obtain ⟨a, ys, rfl, ha, k⟩ := h1.seq e
  exact ⟨a, ys, rfl, ha, fun l hl => q l ys hl k⟩
theorem dl_c1 {g : D → Option (List D)} {nm : Str} {id : String} {p : Pos} (ho : CallR X (.builtin id) (rL1 X.K g)) (hg : Gl X nm) (hm : X.mg nm = none) (hv : bootBuiltins nm = some (.builtin id)) (ha : DE X W a fa) (hn : nm ≠ "__name__" := by decide) (hdb : (nm == ("__debug__" : Str)) = false := by decide)
    (he : starEach [a] X.env = (false, eval a X.env) :: starEach [] X.env := by rfl) : DL X W (.Call (.Name nm p) [a] [] pos) (l1 g fa) := by
  refine ⟨(pe_callB ho hg hm hv (pa_cons ha.pe pa_nil he) hn hdb he (by rfl)).weak fun σ H Q ⟨w, ε, S, rp, o⟩ => ?_⟩
  exact ⟨w, ε, S, rp, (OutM.bnd o).imp fun d1 io1 S1 H1 r1 x1 o1 x hx => rL_of r1 o1 (.inl hx)⟩
theorem dl_t1 {g : D → Option (List D)} {nm : Str} {T : String} {p : Pos} (ho : CallR X (.type T) (rL1 X.K g)) (hg : Gl X nm) (hm : X.mg nm = none) (hv : bootBuiltins nm = some (.type T)) (ha : DE X W a fa) (hn : nm ≠ "__name__" := by decide) (hdb : (nm == ("__debug__" : Str)) = false := by decide)
    (he : starEach [a] X.env = (false, eval a X.env) :: starEach [] X.env := by rfl) : DL X W (.Call (.Name nm p) [a] [] pos) (l1 g fa) := by
  refine ⟨(pe_callTy ho hg hm hv (pa_cons ha.pe pa_nil he) hn hdb he (by rfl)).weak fun σ H Q ⟨w, ε, S, rp, o⟩ => ?_⟩
  exact ⟨w, ε, S, rp, (OutM.bnd o).imp fun d1 io1 S1 H1 r1 x1 o1 x hx => rL_of r1 o1 (.inl hx)⟩
theorem dl_c1B {g : D → Option (List D)} {nm : Str} {id : String} {p : Pos} {i : Nat} (ho : CallR X (.builtin id) (rL1 X.K g)) (hg : Gl X nm) (hm : X.mg nm = none) (hv : bootBuiltins nm = some (.builtin id)) (ha : PE X a (tVar i)) (hn : nm ≠ "__name__" := by decide) (hdb : (nm == ("__debug__" : Str)) = false := by decide)
    (he : starEach [a] X.env = (false, eval a X.env) :: starEach [] X.env := by rfl) : DL X W (.Call (.Name nm p) [a] [] pos) (l1B g i) := by
  refine ⟨(pe_callB ho hg hm hv (pa_cons ha pa_nil he) hn hdb he (by rfl)).weak fun σ H Q ⟨w, ε, S, rp, o⟩ => ?_⟩
  obtain ⟨v, d, e1, e2, o1⟩ := slot_rv rp (OutM.bnd o)
  exact ⟨v, e1, rL_of rp o1 e2⟩
theorem dl_t1B {g : D → Option (List D)} {nm : Str} {T : String} {p : Pos} {i : Nat} (ho : CallR X (.type T) (rL1 X.K g)) (hg : Gl X nm) (hm : X.mg nm = none) (hv : bootBuiltins nm = some (.type T)) (ha : PE X a (tVar i)) (hn : nm ≠ "__name__" := by decide) (hdb : (nm == ("__debug__" : Str)) = false := by decide)
    (he : starEach [a] X.env = (false, eval a X.env) :: starEach [] X.env := by rfl) : DL X W (.Call (.Name nm p) [a] [] pos) (l1B g i) := by
  refine ⟨(pe_callTy ho hg hm hv (pa_cons ha pa_nil he) hn hdb he (by rfl)).weak fun σ H Q ⟨w, ε, S, rp, o⟩ => ?_⟩
  obtain ⟨v, d, e1, e2, o1⟩ := slot_rv rp (OutM.bnd o)
  exact ⟨v, e1, rL_of rp o1 e2⟩
/-! ### truth, tests -/
theorem tru_of {K : PySem.W.Frag} {H : Hp} {mu : Addr → Prop} {v : V} {d : D} {b : Bool} (h : Dv K H mu v d) (e : truthO d = some b) : TruV K v H b := by
  cases h with
  | non => cases e; rfl
  | bl b => cases e; rfl
  | int i => cases e; rfl
  | str x hx =>
    unfold truthO at e
    dsimp only at e
    split at e
    · rename_i hz
      cases e
      refine ⟨Nat.le_trans hz big_le, ?_⟩
      show (x.cps.size != 0) = ((x.cps.size : Int) != 0)
      cases hs : x.cps.size with
      | zero => rfl
      | succ n =>
        have : ((n : Int) + 1) ≠ 0 := by omega
        simp [bne, this]
    · cases e
  | lst h1 h2 h3 => cases e; exact .inl ⟨_, .of h1, by cases h3 <;> rfl⟩
  | tup h1 h2 h3 => cases e; exact .inr (.inl ⟨_, .of h1, by cases h3 <;> rfl⟩)
  | tupK h1 h3 => cases e; exact .inr (.inl ⟨_, SqT.ofK h1, by cases h3 <;> rfl⟩)
/-- a test by its value's truth: a name, a call, a subscript .. -/
theorem dt_v (ha : DE X W a fa) (he : ∀ whole, isTrue a X.env whole = (do let v ← whole; standAt a.pos; holding [v] (truthy v)) := by intro _; rfl) : DT X W a (tV fa) := by
  refine ⟨(pt_truth ha.pe he).weak fun σ H Q ⟨w, ε, S, r, o⟩ => ?_⟩
  refine ⟨w, ε, S, r, (OutM.bnd o).imp fun d1 io1 S1 H1 r1 x1 o1 x hx => ?_⟩
  obtain ⟨b, e, k⟩ := o1.lft r1
  exact ⟨b, tru_of hx e, k H1 (Grow.refl H1)⟩
theorem tB_of {K : PySem.W.Frag} {mg : Str → Option Value} {g : D → D → Option D} (hb : ∀ x y d, g x y = some d → ∃ b, d = .bool b) {w : Wd} {ε : Ev} {S : List D} {σ : L2.St} {H : Hp} {Q : Bool → Hp → Prop} {x y : V} {d1 d2 : D} (r : Rp K w ε S σ H)
    (o : OutM K mg W w ε σ H (bnd (lft (g d1 d2)) (fun z => lft (truthO z)) S) fun b _ _ H' => Q b H') (h : Rv K H w.mu x d1) (h2 : Rv K H w.mu y d2) : rD2 K g x y H fun v H' => ∃ c, v = .bl c ∧ Q c H' := by
  obtain ⟨d, e, k⟩ := (OutM.bnd o).lft r
  obtain ⟨b, rfl⟩ := hb _ _ _ e
  refine ⟨w.mu, d1, d2, _, fun a z => r.muh z, h, h2, e, fun v H' g dv => ?_⟩
  cases dv
  exact ⟨b, rfl, (k H' g).ret (r.grow g)⟩
/-- a comparison as a test -/
theorem dt_cmp {op : CmpOp} {g : D → D → Option D} (hb : ∀ x y d, g x y = some d → ∃ b, d = .bool b) (ho : OpR X (compareOp op) (rD2 X.K g)) (ha : DE X W a fa) (hc : DE X W b fb) (hm : behindInMarks op b = false) : DT X W (.Compare a [op] [b] pos) (tV (x2 g fa fb)) := by
  refine ⟨(pt_cmpR ho ha.pe hc.pe hm).weak fun σ H Q ⟨w, ε, S, rp, o⟩ => ?_⟩
  unfold tV x2 at o
  rw [bnd_bnd] at o
  refine ⟨w, ε, S, rp, (OutM.bnd o).imp fun d1 io1 S1 H1 r1 x1 o1 x hx => ?_⟩
  rw [bnd_bnd] at o1
  exact ⟨w.at io1, ε, S1, r1, (OutM.bnd o1).imp fun d2 io2 S2 H2 r2 x2 o2 y hy => tB_of hb r2 o2 (.inl (hx.exx x2)) (.inl hy)⟩
theorem dt_cmpL {op : CmpOp} {g : D → D → Option D} {i : Nat} (hb : ∀ x y d, g x y = some d → ∃ b, d = .bool b) (ho : OpR X (compareOp op) (rD2 X.K g)) (ha : PE X a (tVar i)) (hc : DE X W b fb) (hm : behindInMarks op b = false) : DT X W (.Compare a [op] [b] pos) (tV (x2L g i fb)) := by
  refine ⟨(pt_cmpR ho ha hc.pe hm).weak fun σ H Q ⟨w, ε, S, rp, o⟩ => ?_⟩
  unfold tV x2L at o
  by_cases hh : has ε i = true
  · rw [if_pos hh, bnd_bnd] at o
    obtain ⟨v, hv⟩ := slot_at rp hh
    refine ⟨v, hv, w, ε, S, rp, (OutM.bnd o).imp fun d1 io1 S1 H1 r1 x1 o1 y hy => ?_⟩
    rw [bnd_bnd] at o1
    obtain ⟨v', d, e1, e2, o2⟩ := slot_rv r1 (OutM.bnd o1)
    rw [hv] at e1; cases e1
    exact tB_of hb r1 o2 e2 (.inl hy)
  · rw [if_neg hh] at o; exact o.elim
theorem dt_cmpRt {op : CmpOp} {g : D → D → Option D} {i : Nat} (hb : ∀ x y d, g x y = some d → ∃ b, d = .bool b) (ho : OpR X (compareOp op) (rD2 X.K g)) (ha : DE X W a fa) (hc : PE X b (tVar i)) (hm : behindInMarks op b = false) : DT X W (.Compare a [op] [b] pos) (tV (x2R g fa i)) := by
  refine ⟨(pt_cmpR ho ha.pe hc hm).weak fun σ H Q ⟨w, ε, S, rp, o⟩ => ?_⟩
  unfold tV x2R at o
  rw [bnd_bnd] at o
  refine ⟨w, ε, S, rp, (OutM.bnd o).imp fun d1 io1 S1 H1 r1 x1 o1 x hx => ?_⟩
  rw [bnd_bnd] at o1
  obtain ⟨v, d, e1, e2, o2⟩ := slot_rv r1 (OutM.bnd o1)
  exact ⟨v, e1, tB_of hb r1 o2 (.inl hx) e2⟩
theorem dt_isx {op : CmpOp} {g : D → Option D} {j : Nat} {pos2 : Pos} (hb : ∀ x d, g x = some d → ∃ b, d = .bool b) (ho : OpR X (compareOp op) (fun x y H Q => y = .non ∧ rD1 X.K g x H Q)) (ha : DE X W a fa) (hm : behindInMarks op (.Constant .none j pos2) = false) : DT X W (.Compare a [op] [.Constant .none j pos2] pos) (tV (x1 g fa)) := by
  refine ⟨(pt_cmpR ho ha.pe pe_non hm).weak fun σ H Q ⟨w, ε, S, rp, o⟩ => ?_⟩
  unfold tV x1 at o
  rw [bnd_bnd] at o
  refine ⟨w, ε, S, rp, (OutM.bnd o).imp fun d1 io1 S1 H1 r1 x1 o1 x hx => ⟨rfl, ?_⟩⟩
  obtain ⟨d, e, k⟩ := (OutM.bnd o1).lft r1
  obtain ⟨b, rfl⟩ := hb _ _ e
  refine ⟨_, d1, _, fun a z => r1.muh z, .inl hx, e, fun v H' g dv => ?_⟩
  cases dv
  exact ⟨b, rfl, (k H' g).ret (r1.grow g)⟩
theorem dt_not {c : Expr} {fc : XT} (h : DT X W c fc) : DT X W (.UnaryOp .Not c pos) (tNot fc) := by
  refine ⟨(pt_not h.pt).weak fun σ H Q ⟨w, ε, S, r, o⟩ => ?_⟩
  exact ⟨w, ε, S, r, (OutM.bnd o).imp fun b io1 S1 H1 r1 x1 o1 => o1.ret r1⟩
/-- not x as a value -/
theorem de_not {fc : XE} (h : DE X W c fc) : DE X W (.UnaryOp .Not c pos) (xNot (tV fc)) := by
  refine ⟨(pe_notT h.pe).weak fun σ H Q ⟨w, ε, S, r, o⟩ => ?_⟩
  unfold xNot tV at o
  rw [bnd_bnd] at o
  refine ⟨w, ε, S, r, (OutM.bnd o).imp fun d1 io1 S1 H1 r1 x1 o1 x hx => ?_⟩
  obtain ⟨b, e, k⟩ := (OutM.bnd o1).lft r1
  exact ⟨b, tru_of hx e, (k H1 (Grow.refl H1)).ret r1 _ (.bl _)⟩
structure DW (X : Cx) (W : WX) (e : Expr) (f : XT) : Prop where
  pw : PW X e (tTs X.K X.mg W f)
theorem _root_.L2.PW.weak {X : Cx} {e : Expr} {t t' : TT} (h : PW X e t) (k : ∀ σ H Q, t' σ H Q → t σ H Q) : PW X e t' := ⟨fun wh pins s σ H Q I q => h.run wh pins s σ H Q I (k σ H Q q)⟩
theorem dw_and1 {f : XT} (h : DT X W a f) : DW X W (.BoolOp .And [a] pos) f := ⟨pw_and1 h.pt⟩
theorem dw_or1 {f : XT} (h : DT X W a f) : DW X W (.BoolOp .Or [a] pos) f := ⟨pw_or1 h.pt⟩
theorem dw_and {f g : XT} {rest : List Expr} (h : DT X W a f) (h2 : DW X W (.BoolOp .And (b :: rest) pos) g) : DW X W (.BoolOp .And (a :: b :: rest) pos) (tAnd f g) := by
  refine ⟨(pw_and h.pt h2.pw).weak fun σ H Q ⟨w, ε, S, r, o⟩ => ?_⟩
  refine ⟨w, ε, S, r, (OutM.bnd o).imp fun t io1 S1 H1 r1 x1 o1 => ?_⟩
  cases t with
  | true => exact ⟨w.at io1, ε, S1, r1, o1⟩
  | false => exact OutM.ret o1 r1
theorem dw_or {f g : XT} {rest : List Expr} (h : DT X W a f) (h2 : DW X W (.BoolOp .Or (b :: rest) pos) g) : DW X W (.BoolOp .Or (a :: b :: rest) pos) (tOr f g) := by
  refine ⟨(pw_or h.pt h2.pw).weak fun σ H Q ⟨w, ε, S, r, o⟩ => ?_⟩
  refine ⟨w, ε, S, r, (OutM.bnd o).imp fun t io1 S1 H1 r1 x1 o1 => ?_⟩
  cases t with
  | true => exact OutM.ret o1 r1
  | false => exact ⟨w.at io1, ε, S1, r1, o1⟩
theorem dt_bool {f : XT} (h : DW X W e f) : DT X W e f := ⟨h.pw.pt⟩
/-- and, or as values -/
theorem de_and1 {op : BoolOp} (h : DE X W a fa) : DE X W (.BoolOp op [a] pos) fa := ⟨pe_one h.pe⟩
theorem de_and {rest : List Expr} (h : DE X W a fa) (h2 : DE X W (.BoolOp .And (b :: rest) pos) fb) : DE X W (.BoolOp .And (a :: b :: rest) pos) (xAnd fa fb) := by
  refine ⟨(pe_andT h.pe h2.pe).weak fun σ H Q ⟨w, ε, S, r, o⟩ => ?_⟩
  refine ⟨w, ε, S, r, (OutM.bnd o).imp fun d1 io1 S1 H1 r1 x1 o1 x hx => ?_⟩
  obtain ⟨t, e, k⟩ := (OutM.bnd o1).lft r1
  have k := k H1 (Grow.refl H1)
  refine ⟨t, tru_of hx e, ?_⟩
  cases t with
  | true => exact ⟨w.at io1, ε, S1, r1, k⟩
  | false => exact OutM.ret k r1 x hx
theorem de_or {rest : List Expr} (h : DE X W a fa) (h2 : DE X W (.BoolOp .Or (b :: rest) pos) fb) : DE X W (.BoolOp .Or (a :: b :: rest) pos) (xOr fa fb) := by
  refine ⟨(pe_orT h.pe h2.pe).weak fun σ H Q ⟨w, ε, S, r, o⟩ => ?_⟩
  refine ⟨w, ε, S, r, (OutM.bnd o).imp fun d1 io1 S1 H1 r1 x1 o1 x hx => ?_⟩
  obtain ⟨t, e, k⟩ := (OutM.bnd o1).lft r1
  have k := k H1 (Grow.refl H1)
  refine ⟨t, tru_of hx e, ?_⟩
  cases t with
  | true => exact OutM.ret k r1 x hx
  | false => exact ⟨w.at io1, ε, S1, r1, k⟩
theorem de_if {fc : XT} (hc : DT X W c fc) (ha : DE X W a fa) (hb : DE X W b fb) : DE X W (.IfExp c a b pos) (xIf fc fa fb) := by
  refine ⟨(pe_ifExp hc.pt ha.pe hb.pe).weak fun σ H Q ⟨w, ε, S, r, o⟩ => ?_⟩
  refine ⟨w, ε, S, r, (OutM.bnd o).imp fun t io1 S1 H1 r1 x1 o1 => ?_⟩
  cases t with
  | true => exact ⟨w.at io1, ε, S1, r1, o1⟩
  | false => exact ⟨w.at io1, ε, S1, r1, o1⟩
/-- a < b < c -/
theorem chn_of {K : PySem.W.Frag} {mg : Str → Option Value} {g h : D → D → Option D} : ∀ σ H Q, tE K mg W (xChn g h fa fb fc) σ H Q → tChain (rD2 K g) (rD2 K h) (tE K mg W fa) (tE K mg W fb) (tE K mg W fc) σ H Q := by
  intro σ H Q ⟨w, ε, S, rp, o⟩
  refine ⟨w, ε, S, rp, (OutM.bnd o).imp fun d1 io1 S1 H1 r1 x1 o1 x hx => ⟨w.at io1, ε, S1, r1, (OutM.bnd o1).imp fun d2 io2 S2 H2 r2 x2 o2 y hy => ?_⟩⟩
  obtain ⟨d, e, k⟩ := (OutM.bnd o2).lft r2
  refine ⟨_, d1, d2, d, fun a z => r2.muh z, .inl (hx.exx x2), .inl hy, e, fun v H3 g3 dv => ?_⟩
  have k := k H3 g3
  cases d with
  | bool t =>
    cases dv
    refine ⟨t, rfl, ?_⟩
    cases t with
    | true => exact ⟨_, ε, S2, r2.grow g3, (OutM.bnd k).imp fun d4 io4 S4 H4 r4 x4 o4 z hz => ed2 r4 o4 (.inl ((hy.exx g3.exx).exx x4)) (.inl hz)⟩
    | false => exact OutM.ret k (r2.grow g3) _ (.bl _)
  | _ => exact k.elim
theorem de_chn {op op' : CmpOp} {g h : D → D → Option D} (ho : OpR X (compareOp op) (rD2 X.K g)) (ho' : OpR X (compareOp op') (rD2 X.K h)) (ha : DE X W a fa) (hb : DE X W b fb) (hc : DE X W c fc)
    (hm : lastMarks [op, op'] [b, c] = false := by with_unfolding_all rfl) : DE X W (.Compare a [op, op'] [b, c] pos) (xChn g h fa fb fc) := ⟨(pe_chain ho ho' ha.pe hb.pe hc.pe hm).weak chn_of⟩
def tChn (g h : D → D → Option D) (a b c : XE) : XT := fun ε => bnd (a ε) fun x => bnd (b ε) fun y => bnd (lft (g x y)) fun z => match z with
  | .bool t => if t then bnd (c ε) fun w => bnd (lft (h y w)) fun q => match q with | .bool u => ret u | _ => stk else ret false
  | _ => stk
theorem dt_chn {op op' : CmpOp} {g h : D → D → Option D} (ho : OpR X (compareOp op) (rD2 X.K g)) (ho' : OpR X (compareOp op') (rD2 X.K h)) (ha : DE X W a fa) (hb : DE X W b fb) (hc : DE X W c fc)
    (hm : lastMarks [op, op'] [b, c] = false := by with_unfolding_all rfl) : DT X W (.Compare a [op, op'] [b, c] pos) (tChn g h fa fb fc) := by
  refine ⟨(pt_chain ho ho' ha.pe hb.pe hc.pe hm).weak fun σ H Q ⟨w, ε, S, rp, o⟩ => ?_⟩
  refine ⟨w, ε, S, rp, (OutM.bnd o).imp fun d1 io1 S1 H1 r1 x1 o1 x hx => ⟨w.at io1, ε, S1, r1, (OutM.bnd o1).imp fun d2 io2 S2 H2 r2 x2 o2 y hy => ?_⟩⟩
  obtain ⟨d, e, k⟩ := (OutM.bnd o2).lft r2
  refine ⟨_, d1, d2, d, fun a z => r2.muh z, .inl (hx.exx x2), .inl hy, e, fun v H3 g3 dv => ?_⟩
  have k := k H3 g3
  cases d with
  | bool t =>
    cases dv
    refine ⟨t, rfl, ?_⟩
    cases t with
    | true =>
      refine ⟨_, ε, S2, r2.grow g3, (OutM.bnd k).imp fun d4 io4 S4 H4 r4 x4 o4 z hz => ?_⟩
      obtain ⟨d5, e5, k5⟩ := (OutM.bnd o4).lft r4
      refine ⟨_, d2, d4, d5, fun a z => r4.muh z, .inl ((hy.exx g3.exx).exx x4), .inl hz, e5, fun v5 H5 g5 dv5 => ?_⟩
      have k5 := k5 H5 g5
      cases d5 with
      | bool u => cases dv5; exact ⟨u, rfl, OutM.ret k5 (r4.grow g5)⟩
      | _ => exact k5.elim
    | false => exact ⟨false, rfl, OutM.ret k (r2.grow g3)⟩
  | _ => exact k.elim
/-! ### slices -/
def xoE : Option XE → Option Expr → Cx → WX → Prop
  | none, none, _, _ => True
  | some f, some e, X, W => DE X W e f
  | _, _, _, _ => False
def tO (K : PySem.W.Frag) (mg : Str → Option Value) (W : WX) (f : Option XE) : TO := fun σ H Q => ∃ w ε S, Rp K w ε S σ H ∧ OutM K mg W w ε σ H (xo f ε S) fun i _ _ H' => Q i H'
theorem po_of {f : Option XE} {e : Option Expr} (h : xoE f e X W) : PO X e (tO X.K X.mg W f) := by
  cases f with
  | none =>
    cases e with
    | none =>
      refine ⟨fun pins s σ H Q I ⟨w, ε, S, r, o⟩ => po_none.run pins s σ H Q I ?_⟩
      exact OutM.ret o r
    | some e => exact h.elim
  | some f =>
    cases e with
    | none => exact h.elim
    | some e =>
      have h : DE X W e f := h
      refine ⟨fun pins s σ H Q I ⟨w, ε, S, r, o⟩ => (po_some h.pe).run pins s σ H Q I ?_⟩
      refine ⟨w, ε, S, r, (OutM.bnd o).imp fun d io1 S1 H1 r1 x1 o1 v dv => ?_⟩
      cases d with
      | int i => cases dv; exact ⟨i, rfl, OutM.ret o1 r1⟩
      | _ => exact (show False from o1).elim
theorem de_slT {flo fhi : Option XE} {lo hi : Option Expr} {p2 : Pos} (ha : DE X W a fa) (hl : xoE flo lo X W) (hh : xoE fhi hi X W) : DE X W (.Subscript a (.Slice lo hi none p2) pos) (xSlT fa flo fhi) := by
  refine ⟨(pe_slice od_slT ha.pe (po_of hl) (po_of hh)).weak fun σ H Q ⟨w, ε, S, r, o⟩ => ?_⟩
  refine ⟨w, ε, S, r, (OutM.bnd o).imp fun d1 io1 S1 H1 r1 x1 o1 x hx => ⟨w.at io1, ε, S1, r1, (OutM.bnd o1).imp fun l io2 S2 H2 r2 x2 o2 => ⟨_, ε, S2, r2, (OutM.bnd o2).imp fun h io3 S3 H3 r3 x3 o3 => ?_⟩⟩⟩
  obtain ⟨d, e, k⟩ := o3.lft r3
  exact ⟨_, d1, d, fun a z => r3.muh z, .inl ((hx.exx x2).exx x3), e, fun v H' g dv => k H' g v dv⟩
theorem dl_sl {flo fhi : Option XE} {lo hi : Option Expr} {p2 : Pos} (ha : DE X W a fa) (hl : xoE flo lo X W) (hh : xoE fhi hi X W) : DL X W (.Subscript a (.Slice lo hi none p2) pos) (lSl fa flo fhi) := by
  refine ⟨(pe_slice sl_list ha.pe (po_of hl) (po_of hh)).weak fun σ H Q ⟨w, ε, S, r, o⟩ => ?_⟩
  refine ⟨w, ε, S, r, (OutM.bnd o).imp fun d1 io1 S1 H1 r1 x1 o1 x hx => ⟨w.at io1, ε, S1, r1, (OutM.bnd o1).imp fun l io2 S2 H2 r2 x2 o2 => ⟨_, ε, S2, r2, (OutM.bnd o2).imp fun h io3 S3 H3 r3 x3 o3 => ?_⟩⟩⟩
  cases d1 with
  | list ds =>
    obtain ⟨p, xs, rfl, hp, k⟩ := Rv.lst (.inl ((hx.exx x2).exx x3))
    exact ⟨p, xs, rfl, hp, fun q hq => OutM.ret o3 r3 q _ hq (cut_of k)⟩
  | _ => exact (show False from o3).elim
/-- [..] * k -/
theorem dl_rep {l : XL} (ha : DL X W a l) (hb : DE X W b fb) : DL X W (.BinOp a .Mult b pos) (lRep l fb) := by
  refine ⟨(pe_op op_rep ha.pe hb.pe).weak fun σ H Q ⟨w, ε, S, r, o⟩ => ?_⟩
  refine ⟨w, ε, S, r, (OutM.bnd o).imp fun ds io1 S1 H1 r1 x1 o1 p vs hp hv => ?_⟩
  have g1 := Grow.upd (o := .lst vs) hp
  refine ⟨w.at io1, ε, S1, r1.grow g1, ((OutM.bnd o1).grow g1).imp fun d2 io2 S2 H2 r2 x2 o2 y hy => ?_⟩
  cases d2 with
  | int k =>
    obtain ⟨hz, o2⟩ := o2.ite
    simp only [Bool.and_eq_true, decide_eq_true_eq] at hz
    cases hy
    have hp1 : H2 p = some (.lst vs) := x2.kw p _ (fun z => r1.new hp (.inl (.inl z))) upd_same nt_lst
    refine ⟨p, k, vs, rfl, rfl, hp1, by omega, by omega, by rw [hv.len]; exact Nat.le_trans hz.1.1 big_le, fun q hq => ?_⟩
    have hv2 : Dvs X.K H2 ((w.at io1).at io2).mu vs ds := Dvs.exx (Dvs.ext hv g1.ext) x2
    have rp : ∀ n, Dvs X.K H2 ((w.at io1).at io2).mu (List.replicate n vs).flatten (repl n ds) := fun n => by
      induction n with
      | zero => exact .nil
      | succ n ih =>
        unfold repl at ih ⊢
        rw [List.replicate_succ, List.replicate_succ, List.flatten_cons, List.flatten_cons]
        exact hv2.app ih
    exact OutM.ret o2 r2 q _ hq (rp _)
  | _ => exact (show False from o2).elim
/-- a + b of lists -/
theorem Dv.lstv {K : PySem.W.Frag} {H : Hp} {mu : Addr → Prop} {v : V} {ds : List D} (h : Dv K H mu v (.list ds)) : ∃ a xs, v = .ref a ∧ H a = some (.lst xs) ∧ Dvs K H mu xs ds := by
  cases h with
  | lst h1 h2 h3 => exact ⟨_, _, rfl, h1, h3⟩
theorem dl_cat (ha : DE X W a fa) (hb : DE X W b fb) : DL X W (.BinOp a .Add b pos) (lCat fa fb) := by
  refine ⟨(pe_op op_cat ha.pe hb.pe).weak fun σ H Q ⟨w, ε, S, r, o⟩ => ?_⟩
  refine ⟨w, ε, S, r, (OutM.bnd o).imp fun d1 io1 S1 H1 r1 x1 o1 x hx => ⟨w.at io1, ε, S1, r1, (OutM.bnd o1).imp fun d2 io2 S2 H2 r2 x2 o2 y hy => ?_⟩⟩
  have hx2 := hx.exx x2
  cases d1 with
  | list xs =>
    cases d2 with
    | list ys =>
      obtain ⟨hz, o2⟩ := o2.ite
      obtain ⟨p, us, rfl, hp, k1⟩ := hx2.lstv
      obtain ⟨q, vs, rfl, hq, k2⟩ := hy.lstv
      exact ⟨p, q, us, vs, rfl, rfl, hp, hq, by rw [k1.len, k2.len]; exact Nat.le_trans hz big_le, fun l hl => OutM.ret o2 r2 l _ hl (k1.app k2)⟩
    | _ => exact (show False from o2).elim
  | _ => cases d2 <;> exact (show False from o2).elim
end
end Tn
end

section
set_option Elab.async false
set_option linter.all false
set_option maxRecDepth 100000
set_option maxHeartbeats 1000000
namespace Tn
open PySem PySem.Spec PyProof.Rows L2
variable [TB]
/-! ### a slot is set -/
def Wd.clr (w : Wd) (l : List Nat) : Wd := { w with om := fun j => if j ∈ l then none else w.om j }
theorem Wd.clr_nil (w : Wd) : w.clr [] = w := by unfold Wd.clr; simp
theorem Wd.clr_clr (w : Wd) (l m : List Nat) : (w.clr l).clr m = w.clr (l ++ m) := by
  unfold Wd.clr
  congr 1
  funext j
  by_cases h : j ∈ m <;> by_cases g : j ∈ l <;> simp [h, g]
theorem Wd.clr_mu {w : Wd} {l : List Nat} {a : Addr} (h : (w.clr l).mu a) : w.mu a := by
  rcases h with (h | ⟨i, h⟩) | h
  · exact .inl (.inl h)
  · have h : (if i ∈ l then none else w.om i) = some a := h
    split at h
    · cases h
    · exact .inl (.inr ⟨i, h⟩)
  · exact .inr h
theorem Wd.clr_id {w : Wd} {l : List Nat} (h : ∀ i ∈ l, w.om i = none) : w.clr l = w := by
  unfold Wd.clr
  have : (fun j => if j ∈ l then none else w.om j) = w.om := by
    funext j
    by_cases g : j ∈ l
    · rw [if_pos g, h j g]
    · rw [if_neg g]
  rw [this]
section
variable {K : PySem.W.Frag} {w : Wd} {ε : Ev} {S : List D} {σ : L2.St} {H : Hp}
theorem Wd.clr_tc {l : List Nat} {a : Addr} (h : (w.clr l).tc a) : w.tc a := by
  rcases h with h | ⟨i, h⟩
  · exact .inl h
  · have h : (if i ∈ l then none else w.om i) = some a := h
    split at h
    · cases h
    · exact .inr ⟨i, h⟩
/-- a slot takes a value (no list of one's own) -/
theorem Rp.setc (r : Rp K w ε S σ H) (i : Nat) (o : Option V) (s : Sl) (h : Vl K H (w.clr [i]).mu w.io o none s) (hs : ∀ d, s ≠ .ow d ∧ s ≠ .lk d) : Rp K (w.clr [i]) (ε.set i s) S (σ.set i o) H where
  ls := r.ls
  nd := r.nd
  oi := fun j k a h1 h2 => by
    have h1 : (if j ∈ [i] then none else w.om j) = some a := h1
    have h2 : (if k ∈ [i] then none else w.om k) = some a := h2
    split at h1
    · cases h1
    · split at h2
      · cases h2
      · exact r.oi j k a h1 h2
  od := fun j a h1 => by
    have h1 : (if j ∈ [i] then none else w.om j) = some a := h1
    split at h1
    · cases h1
    · exact r.od j a h1
  zd := fun a h t => r.zd a h (Wd.clr_tc t)
  zh := r.zh
  tt := r.tt
  st := fun n a d h1 h2 => (r.st n a d h1 h2).mono (fun _ _ _ h _ => h) (fun _ _ z => Wd.clr_mu z) rfl
  sl := fun j s' h1 => by
    by_cases e : i = j
    · subst e
      have hi : i < ε.length := by
        have := (List.getElem?_eq_some_iff.mp h1).1
        rw [List.length_set] at this; exact this
      rw [List.getElem?_set_self hi] at h1
      cases h1
      refine ⟨o, by rw [List.getElem?_set_self (by rw [← r.le]; exact hi)], ?_⟩
      have e2 : (w.clr [i]).om i = none := by show (if i ∈ [i] then none else w.om i) = none; simp
      rw [e2]
      exact h
    · rw [List.getElem?_set_ne e] at h1
      obtain ⟨o', h2, h3⟩ := r.sl j s' h1
      refine ⟨o', by rw [List.getElem?_set_ne e]; exact h2, ?_⟩
      have e2 : (w.clr [i]).om j = w.om j := by
        show (if j ∈ [i] then none else w.om j) = w.om j
        rw [if_neg (by simpa using fun z => e z.symm)]
      rw [e2]
      exact h3.mono (fun _ _ _ h _ => h) (fun _ _ z => Wd.clr_mu z) fun _ _ => rfl
  so := fun j h1 => by
    rw [List.length_set] at h1
    show (if j ∈ [i] then none else w.om j) = none
    rw [r.so j h1]; simp
  le := by rw [List.length_set, List.length_set]; exact r.le
theorem Rp.set (r : Rp K w ε S σ H) (i : Nat) (o : Option V) (s : Sl) (h : Vl K H w.mu w.io o none s) (hs : ∀ d, s ≠ .ow d ∧ s ≠ .lk d) : Rp K (w.clr [i]) (ε.set i s) S (σ.set i o) H :=
  r.setc i o s (h.mono (fun _ _ _ h _ => h) (fun _ _ z => Wd.clr_mu z) fun _ z => by cases z) hs
/-! ### the slots of a comprehension -/
theorem noOw_om {own : List Nat} (r : Rp K w ε S σ H) (h : noOw ε own = true) : ∀ i ∈ own, w.om i = none := fun i hi => by
  unfold noOw at h
  rw [List.all_eq_true] at h
  have h := h i hi
  cases e : ε[i]? with
  | none => exact r.so i (List.getElem?_eq_none_iff.mp e)
  | some s =>
    rw [e] at h
    obtain ⟨o, _, v⟩ := r.sl i s e
    cases s with
    | un => exact v
    | sh d => exact v.1
    | rf n => exact v.1
    | ow d => cases h
    | lk d => cases h
    | sc d => exact v.1
theorem Rp.wip {own : List Nat} (r : Rp K w ε S σ H) (h : ∀ i ∈ own, w.om i = none) : Rp K w (Tn.wip ε own) S (wipe σ own) H := by
  induction own with
  | nil => exact r
  | cons v vs ih =>
    have r1 := ih fun i hi => h i (List.mem_cons_of_mem _ hi)
    have r2 := r1.set v none .un rfl fun d => ⟨fun e => (by cases e), fun e => (by cases e)⟩
    rw [Wd.clr_id (fun i hi => by rw [List.mem_singleton.mp hi]; exact h v List.mem_cons_self)] at r2
    exact r2
end
/-! ### targets -/
mutual
def tgS : Tg → List Nat
  | .nm i => [i]
  | .tup ts => tgSs ts
def tgSs : List Tg → List Nat
  | [] => []
  | t :: ts => tgS t ++ tgSs ts
end
inductive SetsIn (l : List Nat) : L2.St → L2.St → Prop
  | refl (σ : L2.St) : SetsIn l σ σ
  | step {σ σ' : L2.St} (i : Nat) (o : Option V) : i ∈ l → SetsIn l (σ.set i o) σ' → SetsIn l σ σ'
theorem SetsIn.trans {l : List Nat} {a b c : L2.St} (h : SetsIn l a b) (g : SetsIn l b c) : SetsIn l a c := by
  induction h with
  | refl => exact g
  | step i o hi _ ih => exact .step i o hi (ih g)
theorem SetsIn.mono {l m : List Nat} {a b : L2.St} (h : SetsIn l a b) (s : ∀ i ∈ l, i ∈ m) : SetsIn m a b := by
  induction h with
  | refl => exact .refl _
  | step i o hi _ ih => exact .step i o (s i hi) ih
theorem wipe_set {σ : L2.St} {i : Nat} {o : Option V} : ∀ {l : List Nat}, i ∈ l → wipe (σ.set i o) l = wipe σ l
  | v :: vs, h => by
    unfold wipe
    by_cases hv : i ∈ vs
    · rw [wipe_set hv]
    · have e : i = v := by
        rcases List.mem_cons.mp h with h | h
        · exact h
        · exact absurd h hv
      subst e
      have key : ∀ (l : List Nat), i ∉ l → wipe (σ.set i o) l = (wipe σ l).set i o := fun l => by
        induction l with
        | nil => intro _; rfl
        | cons u us ih =>
          intro hn
          have hn' : i ≠ u ∧ i ∉ us := by simpa using hn
          show (wipe (σ.set i o) us).set u none = ((wipe σ us).set u none).set i o
          rw [ih hn'.2, List.set_comm _ _ hn'.1]
      rw [key vs hv, List.set_set]
theorem SetsIn.wipe {l m : List Nat} {a b : L2.St} (h : SetsIn l a b) (s : ∀ i ∈ l, i ∈ m) : L2.wipe b m = L2.wipe a m := by
  induction h with
  | refl => rfl
  | step i o hi _ ih => rw [ih, wipe_set (s i hi)]
def tG (K : PySem.W.Frag) (tg : Tg) : TG := fun v σ H Q => ∃ w ε S d ε1, Rp K w ε S σ H ∧ Dv K H w.mu v d ∧ bindT tg d ε = some ε1 ∧ ∀ σ', SetsIn (tgS tg) σ σ' → Rp K (w.clr (tgS tg)) ε1 S σ' H → Q σ' H
def tGs (K : PySem.W.Frag) (tg : List Tg) : TGs := fun vs σ H Q => ∃ w ε S ds ε1, Rp K w ε S σ H ∧ Dvs K H w.mu vs ds ∧ bindTs tg ds ε = some ε1 ∧ ∀ σ', SetsIn (tgSs tg) σ σ' → Rp K (w.clr (tgSs tg)) ε1 S σ' H → Q σ' H
structure DG (X : Cx) (e : Expr) (tg : Tg) : Prop where
  pg : PG X e (tG X.K tg)
structure DGs (X : Cx) (es : List Expr) (tg : List Tg) : Prop where
  pgs : PGs X es (tGs X.K tg)
theorem _root_.L2.PG.weak {X : Cx} {e : Expr} {t t' : TG} (h : PG X e t) (k : ∀ v σ H Q, t' v σ H Q → t v σ H Q) : PG X e t' :=
  ⟨fun pins s σ H v u Q I r q => h.run pins s σ H v u Q I r (k v σ H Q q)⟩
theorem _root_.L2.PGs.weak {X : Cx} {e : List Expr} {t t' : TGs} (h : PGs X e t) (k : ∀ v σ H Q, t' v σ H Q → t v σ H Q) : PGs X e t' :=
  ⟨fun pins s σ H v u Q I r q => h.run pins s σ H v u Q I r (k v σ H Q q)⟩
section
variable {X : Cx} {W : WX} {pos : Pos}
theorem dg_nm {i : Nat} {x : Str} (hN : X.N.Nodup) (hi : X.N[i]? = some x) (hx : Loc X.env.scope x) (hf : X.fn x = true ∨ X.env.scope.names.lookup x = some .local := by first | exact .inl rfl | exact .inr rfl | assumption) : DG X (.Name x pos) (.nm i) := by
  refine ⟨(pg_name hN hi hx hf).weak fun v σ H Q ⟨w, ε, S, d, ε1, r, dv, e, q⟩ => ?_⟩
  cases e
  exact q _ (.step i _ List.mem_cons_self (.refl _)) (r.set i (some v) (.sh d) ⟨rfl, v, rfl, dv⟩ fun d' => ⟨fun e => (by cases e), fun e => (by cases e)⟩)
theorem dgs_nil : DGs X [] [] := by
  refine ⟨pgs_nil.weak fun v σ H Q ⟨w, ε, S, d, ε1, r, dv, e, q⟩ => ?_⟩
  cases dv with
  | nil =>
    cases e
    have r' : Rp X.K (w.clr (tgSs [])) ε S σ H := by
      show Rp X.K (w.clr []) ε S σ H
      rw [Wd.clr_nil]; exact r
    exact ⟨rfl, q σ (.refl _) r'⟩
  | cons => cases e
theorem dgs_cons {e : Expr} {es : List Expr} {t : Tg} {ts : List Tg} (h : DG X e t) (h2 : DGs X es ts)
    (hs : (assignEach (e :: es) X.env).map (·.2) = assign e X.env :: (assignEach es X.env).map (·.2) := by rfl) : DGs X (e :: es) (t :: ts) := by
  refine ⟨(pgs_cons h.pg h2.pgs hs).weak fun v σ H Q ⟨w, ε, S, ds, ε1, r, dv, ee, q⟩ => ?_⟩
  cases dv with
  | nil => cases ee
  | @cons v1 vs1 da das d1 d2 =>
    have ee : (match bindT t da ε with | some ε1 => bindTs ts das ε1 | none => none) = some ε1 := ee
    cases eb : bindT t da ε with
    | none => rw [eb] at ee; cases ee
    | some εa =>
      rw [eb] at ee
      refine ⟨v1, vs1, rfl, w, ε, S, da, εa, r, d1, eb, fun σ' s1 r1 => ?_⟩
      refine ⟨w.clr (tgS t), εa, S, das, ε1, r1, Dvs.mono (fun _ _ _ h _ => h) (fun _ _ z => Wd.clr_mu z) _ _ d2, ee, fun σ2 s2 r2 => ?_⟩
      rw [Wd.clr_clr] at r2
      exact q σ2 ((s1.mono fun i hi => List.mem_append_left _ hi).trans (s2.mono fun i hi => List.mem_append_right _ hi)) r2
theorem bindTs_len : ∀ {ts : List Tg} {ds : List D} {ε ε1 : Ev}, bindTs ts ds ε = some ε1 → ds.length = ts.length
  | [], [], _, _, _ => rfl
  | [], _ :: _, _, _, h => by cases h
  | _ :: _, [], _, _, h => by cases h
  | t :: ts, d :: ds, ε, ε1, h => by
    have h : (match bindT t d ε with | some ε1 => bindTs ts ds ε1 | none => none) = some ε1 := h
    cases e : bindT t d ε with
    | none => rw [e] at h; cases h
    | some εa => rw [e] at h; rw [List.length_cons, List.length_cons, bindTs_len h]
theorem dg_tup {es : List Expr} {k : Nat} {ts : List Tg} (hc : X.calm = true) (h : DGs X es ts) (hn : (assignEach es X.env).length = ts.length := by rfl) (hst : (assignEach es X.env).findIdx? (·.1) = none := by rfl) : DG X (.Tuple es k pos) (.tup ts) := by
  refine ⟨(pg_tup hc h.pgs hn hst).weak fun v σ H Q ⟨w, ε, S, d, ε1, r, dv, e, q⟩ => ?_⟩
  cases d with
  | tuple ds =>
    have e : bindTs ts ds ε = some ε1 := e
    obtain ⟨a, xs, rfl, ha, hx⟩ := Rv.tup (.inl dv)
    exact ⟨a, xs, rfl, ha, by rw [hx.len, bindTs_len e], w, ε, S, ds, ε1, r, hx, e, q⟩
  | _ => cases e
/-! ### what is walked -/
section
variable {e a b : Expr} {fa fb : XE} {tg : Expr}
/-- behind the coming of an iterator -/
theorem pie_imp {pins : List (Addr × Obj)} {σ : L2.St} {R R' : It → Hp → Prop} {itv : Value} {s2 : Shared} (h : PIE X pins σ tg R itv s2) (k : ∀ J H', Inv X pins σ H' s2 → R J H' → R' J H') : PIE X pins σ tg R' itv s2 := by
  obtain ⟨it, fp, tn, J, H', e, I, T, t0, f, q⟩ := h
  exact ⟨it, fp, tn, J, H', e, I, T, t0, f, k J H' I q⟩
theorem pi_imp {t t' : TI} (h : PI X tg e t) (k : ∀ pins s σ H (R : It → Hp → Prop), Inv X pins σ H s → t' σ H R → ∃ R', t σ H R' ∧ ∀ J H' s', Inv X pins σ H' s' → R' J H' → R J H') : PI X tg e t' := by
  refine ⟨fun pins s σ H R I q => ?_⟩
  obtain ⟨R', h1, h2⟩ := k pins s σ H R I q
  exact thn (h.run pins s σ H R' I h1) fun v s1 g1 => thn g1 fun itv s2 g2 => pie_imp g2 fun J H' I' q' => h2 J H' s2 I' q'
theorem yld_list {K : PySem.W.Frag} {w : Wd} {H : Hp} {p : Addr} {xs : List V} {ds : List D} (hp : H p = some (.lst xs)) (n : ¬ w.mu p) (k : Dvs K H w.mu xs ds) (hl : xs.length ≤ sizeLine) : Yld K (Itl K p) w H ds := by
  refine ⟨by rw [← k.len]; exact hl, fun i w2 H2 x m => ?_⟩
  have hp2 := x.keep p _ n hp nt_lst
  refine ⟨fun d hd => ?_, fun hi => ⟨xs, .of hp2, by rw [k.len]; exact hi⟩⟩
  obtain ⟨v, hv, dv⟩ := k.get hd
  refine ⟨⟨xs, v, .of hp2, hv⟩, fun y H3 ⟨e1, e2⟩ => ?_⟩
  subst e1
  have e3 := e2 xs (.of hp2)
  rw [hv] at e3; cases e3
  exact ⟨Grow.refl _, dv.exw x⟩
theorem yld_tup {K : PySem.W.Frag} {w : Wd} {H : Hp} {p : Addr} {xs : List V} {ds : List D} (hp : (H p = some (.tup xs) ∧ ¬ w.mu p) ∨ SqT K NoH p xs) (k : Dvs K H w.mu xs ds) (hl : xs.length ≤ sizeLine) : Yld K (Itt K p) w H ds := by
  refine ⟨by rw [← k.len]; exact hl, fun i w2 H2 x m => ?_⟩
  have hp2 : SqT K H2 p xs := by
    rcases hp with ⟨hp, n⟩ | hp
    · exact .of (x.keep p _ n hp nt_tup)
    · exact SqT.ofK hp
  refine ⟨fun d hd => ?_, fun hi => ⟨xs, hp2, by rw [k.len]; exact hi⟩⟩
  obtain ⟨v, hv, dv⟩ := k.get hd
  refine ⟨⟨xs, v, hp2, hv⟩, fun y H3 ⟨e1, e2⟩ => ?_⟩
  subst e1
  have e3 := e2 xs hp2
  rw [hv] at e3; cases e3
  exact ⟨Grow.refl _, dv.exw x⟩
theorem Sc.sq {K : PySem.W.Frag} {H : Hp} {mu : Addr → Prop} {p : Addr} {xs : List V} (h : Sc K H mu p xs) : SqL K H p xs := by
  rcases h with ⟨_, h⟩ | h
  · exact .inl h
  · exact SqL.ofK h
theorem Sc.exw {K : PySem.W.Frag} {w w2 : Wd} {H H2 : Hp} {p : Addr} {xs : List V} (h : Sc K H w.mu p xs) (x : Exw w H w2 H2) : SqL K H2 p xs := by
  rcases h with ⟨n, q | ⟨o, q⟩⟩ | h
  · exact .inl (.inl (x.keep p _ n q nt_lst))
  · exact .inl (.inr ⟨o, x.keep p _ n q nt_frz⟩)
  · exact SqL.ofK h
theorem yld_sc {K : PySem.W.Frag} {w : Wd} {H : Hp} {p : Addr} {xs : List V} {ds : List D} (hp : Sc K H w.mu p xs) (k : Dvs K H w.mu xs ds) (hl : xs.length ≤ sizeLine) : Yld K (Itl K p) w H ds := by
  refine ⟨by rw [← k.len]; exact hl, fun i w2 H2 x m => ?_⟩
  have hp2 := hp.exw x
  refine ⟨fun d hd => ?_, fun hi => ⟨xs, hp2, by rw [k.len]; exact hi⟩⟩
  obtain ⟨v, hv, dv⟩ := k.get hd
  refine ⟨⟨xs, v, hp2, hv⟩, fun y H3 ⟨e1, e2⟩ => ?_⟩
  subst e1
  have e3 := e2 xs hp2
  rw [hv] at e3; cases e3
  exact ⟨Grow.refl _, dv.exw x⟩
/-- for x in script -/
theorem di_sc {i : Nat} {e : Expr} (he : PE X e (tVar i)) : DI X W tg e (iSc i) := by
  refine ⟨⟨fun pins s σ H R I ⟨w, ε, S, r, o⟩ => ?_⟩⟩
  refine (pi_imp (t' := fun σ' H' R' => σ' = σ ∧ H' = H ∧ R' = R) (pi_list (tg := tg) he) fun pins' s' σ' H' R' I' ⟨e1, e2, e3⟩ => ?_).run pins s σ H R I ⟨rfl, rfl, rfl⟩
  subst e1 e2 e3
  unfold iSc at o
  cases es : ε[i]? with
  | none => rw [es] at o; exact o.elim
  | some sl =>
    rw [es] at o
    cases sl with
    | sc d =>
      obtain ⟨q, h1, _, h2⟩ := r.sl i _ es
      rcases h2 with ⟨a, xs, ds, rfl, h3, rfl, h5⟩ | ⟨a, od, rfl, _, ⟨kvs, ds, rfl, _⟩ | ⟨kvs, ds, rfl, _⟩⟩
      rotate_left
      · exact o.elim
      · exact o.elim
      refine ⟨R', ⟨.ref a, h1, a, rfl, ⟨xs, h3.sq⟩, ?_⟩, fun _ _ _ _ q => q⟩
      obtain ⟨_, _, _, hl⟩ := I'.list h3.sq
      exact (OutM.ret o r) _ (yld_sc h3 h5 hl)
    | _ => exact o.elim
/-- an error, or no value, ahead of the walk: any reading of the piece does -/
theorem di_seq (ha : DE X W a fa) : DI X W tg a (iSeq fa) := by
  refine ⟨⟨fun pins s σ H R I ⟨w, ε, S, r, o⟩ => ?_⟩⟩
  have tupW : (∀ ds S1, fa ε S ≠ some (.ok (.list ds) S1)) → wpAny (model X.prog X.w) X.A (eval a X.env) (fun v s1 => wpAny (model X.prog X.w) X.A (pyIter v) (PIE X pins σ tg R) X.xe s1) X.xe s := fun hn => by
    refine (pi_imp (t' := fun σ' H' R' => σ' = σ ∧ H' = H ∧ R' = R) (pi_tup (tg := tg) ha.pe) fun pins' s' σ' H' R' I' ⟨e1, e2, e3⟩ => ?_).run pins s σ H R I ⟨rfl, rfl, rfl⟩
    subst e1 e2 e3
    refine ⟨fun J H2 => ∃ p xs ds w2, J = Itt X.K p ∧ SqT X.K H2 p xs ∧ Dvs X.K H2 w2.mu xs ds ∧ ((H2 p = some (.tup xs) ∧ ¬ w2.mu p) ∨ SqT X.K NoH p xs) ∧ ∀ J, Yld X.K J w2 H2 ds → R' J H2, ?_, ?_⟩
    · refine ⟨w, ε, S, r, ?_⟩
      have o := OutM.bnd o
      cases e : fa ε S with
      | none => rw [e] at o; exact o.elim
      | some q =>
        cases q with
        | ex x S1 => rw [e] at o; exact o
        | ok d S1 =>
          rw [e] at o
          intro io1 H1 r1 x1 v dv
          have o1 := o io1 H1 r1 x1
          cases d with
          | list ds => exact absurd e (hn ds S1)
          | tuple ds =>
            have k := fun J y => (OutM.ret o1 r1 : ∀ J, Yld X.K J (w.at io1) H1 ds → R' J H1) J y
            cases dv with
            | tup h1 h2 h3 => exact ⟨_, rfl, ⟨_, .of h1⟩, _, _, _, w.at io1, rfl, .of h1, h3, .inl ⟨h1, h2⟩, k⟩
            | tupK h1 h3 => exact ⟨_, rfl, ⟨_, SqT.ofK h1⟩, _, _, _, w.at io1, rfl, SqT.ofK h1, h3, .inr h1, k⟩
          | _ => exact (show False from o1).elim
    · rintro J H2 s2 I2 ⟨p, xs, ds, w2, rfl, hs, k, hp, q⟩
      obtain ⟨_, _, _, hl⟩ := I2.tuple hs
      exact q _ (yld_tup hp k hl)
  cases e : fa ε S with
  | none => exact tupW fun ds S1 h => by rw [e] at h; cases h
  | some q =>
    cases q with
    | ex x S1 => exact tupW fun ds S1 h => by rw [e] at h; cases h
    | ok d S1 =>
      cases d with
      | list ds =>
        refine (pi_imp (t' := fun σ' H' R' => σ' = σ ∧ H' = H ∧ R' = R) (pi_list (tg := tg) ha.pe) fun pins' s' σ' H' R' I' ⟨e1, e2, e3⟩ => ?_).run pins s σ H R I ⟨rfl, rfl, rfl⟩
        subst e1 e2 e3
        refine ⟨fun J H2 => ∃ p xs w2, J = Itl X.K p ∧ H2 p = some (.lst xs) ∧ ¬ w2.mu p ∧ Dvs X.K H2 w2.mu xs ds ∧ ∀ J, Yld X.K J w2 H2 ds → R' J H2, ?_, ?_⟩
        · refine ⟨w, ε, S, r, ?_⟩
          have o := OutM.bnd o
          rw [e] at o ⊢
          intro io1 H1 r1 x1 v dv
          have o1 := o io1 H1 r1 x1
          have k := fun J y => (OutM.ret o1 r1 : ∀ J, Yld X.K J (w.at io1) H1 ds → R' J H1) J y
          cases dv with
          | lst h1 h2 h3 => exact ⟨_, rfl, ⟨_, .of h1⟩, _, _, w.at io1, rfl, h1, h2, h3, k⟩
        · rintro J H2 s2 I2 ⟨p, xs, w2, rfl, hs, n, k, q⟩
          obtain ⟨_, _, _, hl⟩ := I2.list (.of hs)
          exact q _ (yld_list hs n k hl)
      | _ => exact tupW fun ds S1 h => by rw [e] at h; cases h
theorem rngL_get {lo : Int} {n i : Nat} {d : D} (h : (rngL lo n)[i]? = some d) : i < n ∧ d = .int (lo + i) := by
  unfold rngL at h
  rw [List.getElem?_map] at h
  by_cases hi : i < n
  · rw [List.getElem?_range hi] at h
    cases h; exact ⟨hi, rfl⟩
  · rw [List.getElem?_eq_none (by simpa using hi)] at h; cases h
theorem rngL_len (lo : Int) (n : Nat) : (rngL lo n).length = n := by unfold rngL; simp
theorem yld_rng {K : PySem.W.Frag} {w : Wd} {H : Hp} {lo : Int} {n : Nat} (hn : n ≤ sizeLine) : Yld K (Itr lo n) w H (rngL lo n) := by
  refine ⟨by rw [rngL_len]; exact hn, fun i w2 H2 x m => ⟨fun d hd => ?_, fun hi => by rw [rngL_len] at hi; exact hi⟩⟩
  obtain ⟨h1, rfl⟩ := rngL_get hd
  refine ⟨h1, fun y H3 ⟨e1, e2⟩ => ?_⟩
  subst e1 e2
  exact ⟨Grow.refl _, .int _⟩
theorem di_r1 {p : Pos} (hg : Gl X "range") (hm : X.mg "range" = none) (ha : DE X W a fa) (hs : starEach [a] X.env = [(false, eval a X.env)] := by rfl) : DI X W tg (.Call (.Name "range" p) [a] [] pos) (iR1 fa) := by
  refine ⟨pi_imp (pi_range1 hg hm (pa_cons ha.pe pa_nil hs) hs) fun pins s σ H R I ⟨w, ε, S, r, o⟩ => ⟨R, ?_, fun _ _ _ _ q => q⟩⟩
  refine ⟨w, ε, S, r, (OutM.bnd o).imp fun d io1 S1 H1 r1 x1 o1 v dv => ?_⟩
  cases d with
  | int j =>
    obtain ⟨hz, o1⟩ := o1.ite
    simp only [Bool.and_eq_true, decide_eq_true_eq] at hz
    cases dv
    have hb : (big : Int) = 16777216 := rfl
    refine ⟨j, rfl, by omega, by omega, ?_⟩
    refine (OutM.ret o1 r1 : ∀ J, Yld X.K J (w.at io1) H1 (rngL 0 j.toNat) → R J H1) _ (yld_rng ?_)
    rw [← big_eq]; omega
  | _ => exact (show False from o1).elim
theorem di_r2 {p : Pos} (hg : Gl X "range") (hm : X.mg "range" = none) (ha : DE X W a fa) (hb : DE X W b fb) (hs : starEach [a, b] X.env = [(false, eval a X.env), (false, eval b X.env)] := by rfl) (hs2 : starEach [b] X.env = [(false, eval b X.env)] := by rfl) : DI X W tg (.Call (.Name "range" p) [a, b] [] pos) (iR2 fa fb) := by
  refine ⟨pi_imp (pi_range2 hg hm (pa_cons ha.pe (pa_cons hb.pe pa_nil hs2) (by rw [hs, hs2])) hs hs2) fun pins s σ H R I ⟨w, ε, S, r, o⟩ => ⟨R, ?_, fun _ _ _ _ q => q⟩⟩
  refine ⟨w, ε, S, r, (OutM.bnd o).imp fun d io1 S1 H1 r1 x1 o1 v dv => ⟨w.at io1, ε, S1, r1, (OutM.bnd o1).imp fun d2 io2 S2 H2 r2 x2 o2 v2 dv2 => ?_⟩⟩
  cases d with
  | int i =>
    cases d2 with
    | int j =>
      obtain ⟨hz, o2⟩ := o2.ite
      simp only [Bool.and_eq_true, decide_eq_true_eq] at hz
      cases dv
      cases dv2
      have hb : (big : Int) = 16777216 := rfl
      refine ⟨i, j, rfl, ⟨by omega, by omega, by omega, by omega⟩, ?_⟩
      refine (OutM.ret o2 r2 : ∀ J, Yld X.K J ((w.at io1).at io2) H2 (rngL i (j - i).toNat) → R J H2) _ (yld_rng ?_)
      rw [← big_eq]; omega
    | _ => exact (show False from o2).elim
  | _ => cases d2 <;> exact (show False from o2).elim
end
end
end Tn
end

section
set_option Elab.async false
set_option linter.all false
set_option maxRecDepth 100000
set_option maxHeartbeats 1000000
namespace Tn
open PySem PySem.Spec PyProof.Rows L2
variable [TB]
section
variable {K : PySem.W.Frag} {w : Wd} {ε : Ev} {S : List D} {σ : L2.St} {H : Hp} {a : Addr}
/-- one more place that no value holds -/
def Wd.ad (w : Wd) (a : Addr) : Wd := { w with zt := fun b => w.z b ∨ b = a }
theorem Wd.ad_mu {b : Addr} : (w.ad a).mu b ↔ w.mu b ∨ b = a := by
  constructor
  · rintro (h | h | h)
    · exact .inl (.inl h)
    · exact .inl (.inr h)
    · exact .inr h
  · rintro ((h | h) | h)
    · exact .inl h
    · exact .inr (.inl h)
    · exact .inr (.inr h)
/-- a new object is laid that no value holds -/
theorem Rp.lay (r : Rp K w ε S σ H) (h : H a = none) (o : HO) (no : Mo o := by first | exact mo_l | exact mo_k | exact mo_t) : Rp K (w.ad a) ε S σ (upd H a o) where
  ls := r.ls
  nd := r.nd
  oi := r.oi
  od := r.od
  zd := fun b z t => by
    rcases z with z | z
    · exact r.zd b z t
    · subst z; exact (r.tch t).ne h
  zh := fun b z => by
    rcases z with z | z
    · exact (r.zh b z).grow (Grow.upd h)
    · subst z; exact ⟨o, upd_same, no⟩
  tt := r.tt.ext (Grow.upd h)
  st := fun n b d h1 h2 => (r.st n b d h1 h2).mono (fun b o _ q _ => Grow.upd h b o q) (fun b hb z => by
    rcases Wd.ad_mu.mp z with z | z
    · exact z
    · subst z; exact absurd h hb.ne) ((Grow.upd h).eq (r.st n b d h1 h2).kn.ne)
  sl := fun i s h1 => by
    obtain ⟨o', h2, h3⟩ := r.sl i s h1
    exact ⟨o', h2, h3.mono (fun b o _ q _ => Grow.upd h b o q) (fun b hb z => by
      rcases Wd.ad_mu.mp z with z | z
      · exact z
      · subst z; exact absurd h hb.ne) fun b e => (Grow.upd h).eq (r.tch (.inr ⟨i, e⟩)).ne⟩
  so := r.so
  le := r.le
/-- what stands at such a place changes -/
theorem mo_tb {o : HO} {ps : Array Value} (h : Mo o) (e : some o = some (.tbl ps)) : False := by
  rcases h with ⟨_, rfl⟩ | ⟨_, rfl⟩ | ⟨_, rfl⟩ <;> cases e
theorem mo_cd {o : HO} {c : Addr} {q : Str} (h : Mo o) (e : some o = some (LamX.CodeO c q)) : False := by
  unfold LamX.CodeO at e
  rcases h with ⟨_, rfl⟩ | ⟨_, rfl⟩ | ⟨_, rfl⟩ <;> cases e
theorem tabs_mo {T : List (Addr × Str)} {H : Hp} {a : Addr} {o u : HO} (t : LamX.Tabs T H) (h : H a = some o) (m : Mo o) : LamX.Tabs T (upd H a u) := fun p hp => by
  obtain ⟨ps, h1, h2, h3⟩ := t p hp
  refine ⟨ps, by rw [upd_ne (fun e => by rw [e, h] at h1; exact mo_tb m h1)]; exact h1, h2, fun pos cv hc => ?_⟩
  obtain ⟨c, e1, e2⟩ := h3 pos cv hc
  refine ⟨c, e1, ?_⟩
  rw [upd_ne (fun e => by rw [e, h] at e2; exact mo_cd m e2)]; exact e2
theorem tabs_lst {T : List (Addr × Str)} {H : Hp} {a : Addr} {xs ys : List V} (t : LamX.Tabs T H) (h : H a = some (.lst xs)) : LamX.Tabs T (upd H a (.lst ys)) := fun p hp => by
  obtain ⟨ps, h1, h2, h3⟩ := t p hp
  refine ⟨ps, by rw [upd_ne (fun e => by rw [e, h] at h1; cases h1)]; exact h1, h2, fun pos cv hc => ?_⟩
  obtain ⟨c, e1, e2⟩ := h3 pos cv hc
  refine ⟨c, e1, ?_⟩
  rw [upd_ne (fun e => by rw [e, h] at e2; unfold LamX.CodeO at e2; cases e2)]; exact e2
theorem Rp.zup {xs ys : List V} (r : Rp K w ε S σ H) (h : w.z a) (hx : H a = some (.lst xs)) : Rp K w ε S σ (upd H a (.lst ys)) where
  ls := r.ls
  nd := r.nd
  oi := r.oi
  od := r.od
  zd := r.zd
  zh := fun b z => by
    by_cases e : b = a
    · subst e; exact ⟨_, upd_same, mo_l⟩
    · obtain ⟨o, q, n⟩ := r.zh b z; exact ⟨o, by rw [upd_ne e]; exact q, n⟩
  tt := tabs_lst r.tt hx
  st := fun n b d h1 h2 => by
    have hb : b ≠ a := fun e => by subst e; exact r.zd b h (.inl (List.mem_of_getElem? h1))
    exact (r.st n b d h1 h2).mono (fun c o n q _ => by rw [upd_ne (fun e => n (by subst e; exact .inr h))]; exact q) (fun _ _ z => z) (upd_ne hb)
  sl := fun i s h1 => by
    obtain ⟨o', h2, h3⟩ := r.sl i s h1
    refine ⟨o', h2, h3.mono (fun c o n q _ => by rw [upd_ne (fun e => n (by subst e; exact .inr h))]; exact q) (fun _ _ z => z) fun b e => upd_ne fun e2 => ?_⟩
    subst e2
    exact r.zd b h (.inr ⟨i, e⟩)
  so := r.so
  le := r.le
theorem Dvs.zup {vs : List V} {ds : List D} (k : Dvs K H w.mu vs ds) (h : w.z a) (o : HO) : Dvs K (upd H a o) w.mu vs ds :=
  Dvs.mono (fun c o n q _ => by rw [upd_ne (fun e => n (by subst e; exact .inr h))]; exact q) (fun _ _ z => z) ds vs k
def del (H : Hp) (a : Addr) : Hp := fun b => if b = a then none else H b
theorem del_ne {b : Addr} (h : b ≠ a) : del H a b = H b := by unfold del; rw [if_neg h]
theorem del_same : del H a a = none := by unfold del; rw [if_pos rfl]
theorem upd_del {o : HO} (h : H a = some o) : upd (del H a) a o = H := by
  funext b
  by_cases e : b = a
  · subst e; rw [upd_same, h]
  · rw [upd_ne e, del_ne e]
/-- such a place is forgotten -/
theorem tabs_delM {T : List (Addr × Str)} {H : Hp} {a : Addr} {o : HO} (t : LamX.Tabs T H) (h : H a = some o) (m : Mo o) : LamX.Tabs T (Tn.del H a) := fun p hp => by
  obtain ⟨ps, h1, h2, h3⟩ := t p hp
  refine ⟨ps, by rw [del_ne (fun e => by rw [e, h] at h1; exact mo_tb m h1)]; exact h1, h2, fun pos cv hc => ?_⟩
  obtain ⟨c, e1, e2⟩ := h3 pos cv hc
  refine ⟨c, e1, ?_⟩
  rw [del_ne (fun e => by rw [e, h] at e2; exact mo_cd m e2)]; exact e2
theorem tabs_del {T : List (Addr × Str)} {H : Hp} {a : Addr} {xs : List V} (t : LamX.Tabs T H) (h : H a = some (.lst xs)) : LamX.Tabs T (Tn.del H a) := fun p hp => by
  obtain ⟨ps, h1, h2, h3⟩ := t p hp
  refine ⟨ps, by rw [del_ne (fun e => by rw [e, h] at h1; cases h1)]; exact h1, h2, fun pos cv hc => ?_⟩
  obtain ⟨c, e1, e2⟩ := h3 pos cv hc
  refine ⟨c, e1, ?_⟩
  rw [del_ne (fun e => by rw [e, h] at e2; unfold LamX.CodeO at e2; cases e2)]; exact e2
theorem Rp.del {xs : List V} (r : Rp K (w.ad a) ε S σ H) (hz : ¬ w.z a) (hx : H a = some (.lst xs)) : Rp K w ε S σ (Tn.del H a) where
  ls := r.ls
  nd := r.nd
  oi := r.oi
  od := r.od
  zd := fun b z t => r.zd b (.inl z) t
  zh := fun b z => by
    have hb : b ≠ a := fun e => by subst e; exact hz z
    obtain ⟨o, q, n⟩ := r.zh b (.inl z)
    exact ⟨o, by rw [del_ne hb]; exact q, n⟩
  tt := tabs_del r.tt hx
  st := fun n b d h1 h2 => by
    have hb : b ≠ a := fun e => by subst e; exact r.zd b (.inr rfl) (.inl (List.mem_of_getElem? h1))
    exact (r.st n b d h1 h2).mono (fun c o n q _ => by rw [del_ne (fun e => n (by subst e; exact .inr (.inr rfl)))]; exact q) (fun _ _ z => Wd.ad_mu.mpr (.inl z)) (del_ne hb)
  sl := fun i s h1 => by
    obtain ⟨o', h2, h3⟩ := r.sl i s h1
    refine ⟨o', h2, h3.mono (fun c o n q _ => by rw [del_ne (fun e => n (by subst e; exact .inr (.inr rfl)))]; exact q) (fun _ _ z => Wd.ad_mu.mpr (.inl z)) fun b e => del_ne fun e2 => ?_⟩
    subst e2
    exact r.zd b (.inr rfl) (.inr ⟨i, e⟩)
  so := r.so
  le := r.le
theorem Dvs.del {vs : List V} {ds : List D} (k : Dvs K H (w.ad a).mu vs ds) : Dvs K (Tn.del H a) w.mu vs ds :=
  Dvs.mono (fun c o n q _ => by rw [del_ne (fun e => n (by subst e; exact .inr (.inr rfl)))]; exact q) (fun _ _ z => Wd.ad_mu.mpr (.inl z)) ds vs k
end
/-! ### comprehensions -/
abbrev W0 : WX := fun _ _ _ _ => False
structure DTs (X : Cx) (W : WX) (ifs : List Expr) (f : XT) : Prop where
  pts : PTs X ifs (tTs X.K X.mg W f)
theorem _root_.L2.PTs.weak {X : Cx} {e : List Expr} {t t' : TT} (h : PTs X e t) (k : ∀ σ H Q, t' σ H Q → t σ H Q) : PTs X e t' := ⟨fun pins s σ H Q I q => h.run pins s σ H Q I (k σ H Q q)⟩
section
variable {X : Cx} {W : WX} {pos : Pos}
theorem dts_nil : DTs X W [] Tn.tYes := ⟨pts_nil.weak fun σ H Q ⟨w, ε, S, r, o⟩ => OutM.ret o r⟩
theorem dts_one {c : Expr} {f : XT} (h : DT X W c f) : DTs X W [c] f := ⟨pts_one h.pt⟩
theorem OutM.quiet {α β : Type} {K : PySem.W.Frag} {mg : Str → Option Value} {w w' : Wd} {ε ε1 : Ev} {S : List D} {σ σ1 : L2.St} {H H1 : Hp} {m : M α} {k : α → M β} {P : β → List Addr → List D → Hp → Prop} {P' : α → List Addr → List D → Hp → Prop}
    (o : OutM K mg W w ε σ H (Tn.bnd (Tn.qt m) k S) P) (f : ∀ a S1 io' H', m S = some (.ok a S1) → OutM K mg W w ε σ H (k a S1) P → Rp K (w'.at io') ε1 S1 σ1 H' → Exx w' H1 io' H' → P' a io' S1 H') : OutM K mg W0 w' ε1 σ1 H1 (m S) P' := by
  unfold Tn.bnd Tn.qt at o
  cases e : m S with
  | none => rw [e] at o; exact o.elim
  | some r =>
    rw [e] at o
    cases r with
    | ok a S1 => exact fun io' H' r1 x1 => f a S1 io' H' e o r1 x1
    | ex x S1 => exact o.elim
theorem Exx.re {w w' : Wd} {H H' : Hp} {io : List Addr} (x : Exx w H io H') (e : w'.io = w.io) : Exx w' H io H' := ⟨by rw [e]; exact x.pre, by rw [e]; exact x.kw, by rw [e]; exact x.ni, x.dm⟩
/-- a comprehension's state between two turns -/
structure CS (K : PySem.W.Frag) (mg : Str → Option Value) (W : WX) (w1 : Wd) (ε : Ev) (σ : L2.St) (H1 : Hp) (D0 : Addr) (tg : Tg) (fc : XT) (fe : XE) (vs : List Nat) (items : List D) (P : List D → List Addr → List D → Hp → Prop) (i : Nat) (H' : Hp) : Prop where
  lt : i ≤ items.length
  ex : ∃ io S' accV accD, Rp K ((w1.ad D0).at io) ε S' σ H' ∧ Exx w1 H1 io H' ∧ H' D0 = some (.lst accV) ∧ Dvs K H' ((w1.ad D0).at io).mu accV accD ∧ accV.length ≤ i ∧
    OutM K mg W w1 ε σ H1 (compGo tg fc fe (Tn.wip ε vs) (items.drop i) S') fun ys io' S'' H'' => P (accD ++ ys) io' S'' H''
theorem lc_read {K : PySem.W.Frag} {mg : Str → Option Value} {tg : Tg} {fit : XL} {fc : XT} {fe : XE} {vs : List Nat} (htg : ∀ i ∈ tgS tg, i ∈ vs) : ∀ σ H Q, tL K mg W (lComp fit tg fc fe vs) σ H Q → tLc (tI K mg W fit) (tG K tg) (tTs K mg W0 fc) (tE K mg W0 fe) vs σ H Q := by
  intro σ H Q ⟨w, ε, S, r, o⟩
  refine ⟨w, ε, S, r, (OutM.bnd o).imp fun items io1 S1 H1 r1 x1 o1 J y D0 hD => ?_⟩
  obtain ⟨hno, o1⟩ := o1.ite
  have hom : ∀ i ∈ vs, (w.at io1).om i = none := noOw_om r1 hno
  have hzD : ¬ (w.at io1).z D0 := fun z => (r1.zh D0 z).ne hD
  refine ⟨fun i m H' => m = items.length - i ∧ CS K mg W (w.at io1) ε σ H1 D0 tg fc fe vs items (fun ds io' _ H' => ∀ p us, H' p = none → Dvs K H' ((w.at io1).at io').mu us ds → Q (.ref p) (upd H' p (.lst us))) i H',
    ⟨items.length, by simp, Nat.zero_le _, io1, S1, [], [], r1.lay hD _, (Grow.upd hD).exx, upd_same, .nil, Nat.zero_le _, by simpa using o1⟩, ?_⟩
  rintro i m H' ⟨rfl, hle, io, S', accV, accD, rp, xx, hDv, hacc, hlen, om⟩
  have xt : Ext (w.at io1) H1 (((w.at io1).ad D0).at io) H' :=
    ⟨xx.pre, fun a z => by
      rcases z with z | z
      · exact .inl z
      · subst z; exact .inr (Kn.non hD), fun a o n q u => xx.kw a o (fun z => n (.inl z)) q u, fun a t => by
      rcases t with t | t
      · rcases xx.ni a t with t | t
        · exact .inl (.inl t)
        · exact .inr t
      · exact .inl (.inr t), xx.dm⟩
  obtain ⟨yi, yn⟩ := y.2 i _ H' xt.xw fun a z => rp.muz z
  by_cases hlt : i < items.length
  · have hit : items[i]? = some items[i] := List.getElem?_eq_getElem hlt
    obtain ⟨jgo, jy⟩ := yi _ hit
    refine .inr ⟨jgo, fun H2 => CS K mg W (w.at io1) ε σ H1 D0 tg fc fe vs items _ (i + 1) H2, fun H2 c => ⟨items.length - (i + 1), by omega, rfl, c⟩, fun x H3 yl => ?_⟩
    obtain ⟨g3, dv⟩ := jy x H3 yl
    rw [List.drop_eq_getElem_cons hlt] at om
    unfold compGo at om
    cases eb : bindT tg items[i] (Tn.wip ε vs) with
    | none => simp only [eb] at om; exact om.elim
    | some ε1 =>
      simp only [eb] at om
      have rp3 := rp.grow g3
      have hom2 : ∀ j ∈ vs, (((w.at io1).ad D0).at io).om j = none := hom
      refine ⟨_, _, S', _, ε1, rp3.wip hom2, dv, eb, fun σ2 st r2 => ?_⟩
      refine ⟨st.wipe htg |>.trans ?_, ?_⟩
      · have idem : ∀ (l : List Nat) (τ : L2.St), (∀ j ∈ l, j ∈ vs) → wipe (wipe τ l) vs = wipe τ vs := fun l => by
          induction l with
          | nil => intro τ _; rfl
          | cons v l ih =>
            intro τ hl
            show wipe ((wipe τ l).set v none) vs = _
            rw [wipe_set (hl v List.mem_cons_self), ih τ fun j hj => hl j (List.mem_cons_of_mem _ hj)]
        exact idem vs σ fun _ h => h
      · rw [Wd.clr_id (fun j hj => hom2 j (htg j hj))] at r2
        have hD3 : H3 D0 = some (.lst accV) := g3 _ _ hDv
        refine ⟨_, ε1, S', r2, OutM.quiet om fun b S4 io4 H4 _ om4 r4 x4 => ?_⟩
        have hzd : D0 ∉ io := fun z => rp.zd D0 (.inr rfl) (.inl z)
        have hD4 : H4 D0 = some (.lst accV) := x4.kw _ _ hzd hD3 nt_lst
        have rp4 : Rp K (((w.at io1).ad D0).at io4) ε S4 σ H4 := Rp.back (w := ((w.at io1).ad D0).at io) rp3 r4 x4
        have xx4 : Exx (w.at io1) H1 io4 H4 := (xx.trans (g3.exx (w := (w.at io1).at io))).trans (x4.re rfl)
        have hacc4 : Dvs K H4 (((w.at io1).ad D0).at io4).mu accV accD := Dvs.exx (w := ((w.at io1).ad D0).at io) (Dvs.ext hacc g3.ext) x4
        cases b with
        | false => exact ⟨hlt, io4, S4, accV, accD, rp4, xx4, hD4, hacc4, by omega, om4⟩
        | true =>
          simp only [if_true] at om4 ⊢
          refine ⟨_, ε1, S4, r4, OutM.quiet om4 fun yd S5 io5 H5 _ om5 r5 x5 yv ydv => ?_⟩
          have hzd4 : D0 ∉ io4 := fun z => rp4.zd D0 (.inr rfl) (.inl z)
          have hD5 : H5 D0 = some (.lst accV) := x5.kw _ _ hzd4 hD4 nt_lst
          have rp5 : Rp K (((w.at io1).ad D0).at io5) ε S5 σ H5 := Rp.back (w := ((w.at io1).ad D0).at io4) rp4 r5 x5
          have xx5 : Exx (w.at io1) H1 io5 H5 := xx4.trans (x5.re rfl)
          have hacc5 : Dvs K H5 (((w.at io1).ad D0).at io5).mu accV accD := Dvs.exx (w := ((w.at io1).ad D0).at io4) hacc4 x5
          have zD : (((w.at io1).ad D0).at io5).z D0 := .inr rfl
          refine ⟨accV, hD5, by have := y.1; omega, hlt, io5, S5, accV ++ [yv], accD ++ [yd], rp5.zup zD hD5, ?_, upd_same, Dvs.zup (hacc5.app (.cons ydv .nil)) zD _, by rw [List.length_append, List.length_singleton]; omega, ?_⟩
          · refine ⟨xx5.pre, fun a o n q u => ?_, xx5.ni, fun a q => ?_⟩
            · rw [upd_ne (fun e => by subst e; rw [hD] at q; cases q)]; exact xx5.kw a o n q u
            · by_cases e : a = D0
              · subst e; exact absurd q (Kn.non hD)
              · obtain ⟨u, q1, q2⟩ := xx5.dm a q; exact ⟨u, by rw [upd_ne e]; exact q1, q2⟩
          · refine (OutM.bnd om5).imp fun ys io6 S6 H6 r6 x6 o6 => ?_
            have := OutM.ret o6 r6
            simpa [List.append_assoc] using this
  · have hi : i = items.length := by omega
    refine .inl ⟨yn (by omega), ?_⟩
    rw [hi, List.drop_length] at om
    have hq := om io (Tn.del H' D0) (Rp.del rp hzD hDv) ⟨xx.pre, fun a o n q u => by
        rw [del_ne (fun e => by subst e; rw [hD] at q; cases q)]; exact xx.kw a o n q u, xx.ni, fun a q => by
        by_cases e : a = D0
        · subst e; exact absurd q (Kn.non hD)
        · obtain ⟨u, q1, q2⟩ := xx.dm a q; exact ⟨u, by rw [del_ne e]; exact q1, q2⟩⟩ D0 accV del_same
    rw [List.append_nil] at hq
    have hq := hq (Dvs.del (w := (w.at io1).at io) hacc)
    rw [upd_del hDv] at hq
    exact hq
theorem dl_comp {elt tgE iter : Expr} {ifs : List Expr} {scope : Scope} {own : List (Str × Nat)} {tg : Tg} {fit : XL} {fc : XT} {fe : XE} (hc : X.calm = true) (hN : X.N.Nodup) (hi : DI X W tgE iter fit) (ok : BlkOk X.N X.env.scope scope own) (htg : ∀ i ∈ tgS tg, i ∈ own.map (·.2))
    (hg : ∀ (s : Shared) (H : Hp) (C : Addr) (cl : List (Str × Addr)) (fp : List Addr), DG (X.blk s H scope (compEnvC scope cl C X.env) fp) tgE tg) (ht : ∀ (s : Shared) (H : Hp) (C : Addr) (cl : List (Str × Addr)) (fp : List Addr), DTs (X.blk s H scope (compEnvC scope cl C X.env) fp) W0 ifs fc)
    (he : ∀ (s : Shared) (H : Hp) (C : Addr) (cl : List (Str × Addr)) (fp : List Addr), DE (X.blk s H scope (compEnvC scope cl C X.env) fp) W0 elt fe) (hs : ∀ x, foldedSetIterable iter X.env x = pure x := by intro _; rfl) :
    DL X W (.ListComp elt [⟨tgE, iter, ifs, 0⟩] scope pos) (lComp fit tg fc fe (own.map (·.2))) := by
  refine ⟨(pe_lc (g := tG X.K tg) (tt := tTs X.K X.mg W0 fc) (te := tE X.K X.mg W0 fe) hc hN hi.pi ok (fun s H C cl fp => (hg s H C cl fp).pg) (fun s H C cl fp => (ht s H C cl fp).pts) (fun s H C cl fp => (he s H C cl fp).pe) hs).weak fun σ H Q ⟨w, ε, S, r, o⟩ => ?_⟩
  exact lc_read htg σ H Q ⟨w, ε, S, r, o⟩
end
end Tn
end

section
set_option Elab.async false
set_option linter.all false
set_option maxRecDepth 100000
set_option maxHeartbeats 1000000
namespace Tn
open PySem PySem.Spec PyProof.Rows L2
variable [TB]
/-- what a value handed back is -/
def RV (K : PySem.W.Frag) (H : Hp) (w : Wd) (v : V) : Sl → Prop
  | .sh d => Dv K H w.mu v d
  | .rf n => ∃ a, v = .ref a ∧ w.io[n]? = some a
  | .ow d => ∃ i a us ds, v = .ref a ∧ w.om i = some a ∧ d = .list ds ∧ H a = some (.lst us) ∧ Dvs K H w.mu us ds
  | .lk d => ∃ a us ds, v = .ref a ∧ d = .tuple ds ∧ H a = some (.tup us) ∧ ¬ w.mu a ∧ Dvs K H w.mu us ds
  | _ => False
def OutS (K : PySem.W.Frag) (mg : Str → Option Value) (W : WX) (w : Wd) (H : Hp) (o : Option (Res SR)) (D : Ends) : Prop :=
  match o with
  | none => False
  | some (.ok (.nx ε') S') => ∀ w' σ' H', w'.zt = w.zt → Rp K w' ε' S' σ' H' → Ext w H w' H' → D.nx σ' H'
  | some (.ok (.bk ε') S') => ∀ w' σ' H', w'.zt = w.zt → Rp K w' ε' S' σ' H' → Ext w H w' H' → D.bk σ' H'
  | some (.ok (.ct ε') S') => ∀ w' σ' H', w'.zt = w.zt → Rp K w' ε' S' σ' H' → Ext w H w' H' → D.ct σ' H'
  | some (.ok (.rt r) S') => ∀ w' ε' σ' v H', w'.zt = w.zt → Rp K w' ε' S' σ' H' → Ext w H w' H' → RV K H' w' v r → D.rt v H'
  | some (.ex e S') => ∀ w' ε' σ' H', w'.zt = w.zt → Rp K w' ε' S' σ' H' → Ext w H w' H' → W (exV mg e) none σ' H'
section
variable {K : PySem.W.Frag} {mg : Str → Option Value} {W : WX} {w w1 : Wd} {ε ε1 : Ev} {S S1 : List D} {σ : L2.St} {H H1 : Hp} {o : Option (Res SR)} {D0 D1 : Ends}
theorem OutS.anch (h : OutS K mg W w H o D0) (x : Ext w H w1 H1) (z : w1.zt = w.zt) : OutS K mg W w1 H1 o D0 := by
  cases o with
  | none => exact h
  | some r =>
    cases r with
    | ex e S' => exact fun w' ε' σ' H' z' r' x' => h w' ε' σ' H' (z'.trans z) r' (x.trans x')
    | ok a S' =>
      cases a with
      | nx ε' => exact fun w' σ' H' z' r' x' => h w' σ' H' (z'.trans z) r' (x.trans x')
      | bk ε' => exact fun w' σ' H' z' r' x' => h w' σ' H' (z'.trans z) r' (x.trans x')
      | ct ε' => exact fun w' σ' H' z' r' x' => h w' σ' H' (z'.trans z) r' (x.trans x')
      | rt v => exact fun w' ε' σ' u H' z' r' x' q => h w' ε' σ' u H' (z'.trans z) r' (x.trans x') q
/-- an expression, then the rest -/
theorem OutS.exp {α : Type} {m : M α} {k : α → M SR} (h : OutS K mg W w H (bnd m k S) D0) : OutM K mg W w ε σ H (m S) fun a io1 S1 H1 => OutS K mg W (w.at io1) H1 (k a S1) D0 := by
  unfold Tn.bnd at h
  cases e : m S with
  | none => rw [e] at h; exact h
  | some r =>
    rw [e] at h
    cases r with
    | ex x S1 => exact fun io' H' r1 x1 => h (w.at io') _ _ _ rfl r1 x1.ext
    | ok a S1 => exact fun io1 H1 r1 x1 => OutS.anch h x1.ext rfl
theorem OutS.nx (h : OutS K mg W w H (ret (.nx ε) S) D0) (r : Rp K w1 ε S σ H1) (x : Ext w H w1 H1) (z : w1.zt = w.zt) : D0.nx σ H1 := h w1 σ H1 z r x
end
def tS (K : PySem.W.Frag) (mg : Str → Option Value) (W : WX) (f : XS) : TS := fun D0 σ H => ∃ w ε S, Rp K w ε S σ H ∧ OutS K mg W w H (f ε S) D0
structure DS (X : Cx) (W : WX) (st : Stmt) (f : XS) : Prop where
  ps : PS X st (tS X.K X.mg W f)
structure DSs (X : Cx) (W : WX) (st : List Stmt) (f : XS) : Prop where
  pss : PSs X st (tS X.K X.mg W f)
/-- the context of a def's body -/
structure Gd (X : Cx) (W : WX) (k : Nat) : Prop where
  calm : X.calm = true
  nd : X.N.Nodup
  po : PassesOwn (model X.prog X.w) X.A X.env X.xe
  tk : Takes X W
  room : Room k X.A
theorem Gd.u {X : Cx} {W : WX} {k : Nat} (g : Gd X W k) : X.A.units + 100 < cLine := by have := g.room.un; omega
section
variable {X : Cx} {W : WX} {st : Stmt} {rest sts : List Stmt} {f g : XS} {pos : Pos}
theorem dss_nil : DSs X W [] sPass := ⟨pss_nil.weak fun D0 σ H ⟨w, ε, S, r, o⟩ => o w σ H rfl r (Ext.refl w H)⟩
theorem seq_read {K : PySem.W.Frag} {mg : Str → Option Value} : ∀ D0 σ H, tS K mg W (sSeq f g) D0 σ H → tSeq (tS K mg W f) (tS K mg W g) D0 σ H := by
  intro D0 σ H ⟨w, ε, S, r, o⟩
  refine ⟨w, ε, S, r, ?_⟩
  unfold sSeq Tn.bnd at o
  cases e : f ε S with
  | none => simp only [e] at o; exact o
  | some q =>
    simp only [e] at o
    cases q with
    | ex x S1 => exact o
    | ok a S1 =>
      cases a with
      | nx ε1 => exact fun w1 σ1 H1 z1 r1 x1 => ⟨w1, ε1, S1, r1, OutS.anch o x1 z1⟩
      | bk ε1 => exact o
      | ct ε1 => exact o
      | rt v => exact o
theorem dss_cons (h : DS X W st f) (h2 : DSs X W rest g) : DSs X W (st :: rest) (sSeq f g) := ⟨(pss_cons h.ps h2.pss).weak seq_read⟩
theorem dss_one (h : DS X W st f) : DSs X W [st] f := ⟨pss_one h.ps⟩
theorem ds_pass : DS X W (.Pass pos) sPass := ⟨ps_pass.weak fun D0 σ H ⟨w, ε, S, r, o⟩ => o w σ H rfl r (Ext.refl w H)⟩
theorem ds_break : DS X W (.Break pos) sBreak := ⟨ps_break.weak fun D0 σ H ⟨w, ε, S, r, o⟩ => o w σ H rfl r (Ext.refl w H)⟩
theorem ds_cont : DS X W (.Continue pos) sCont := ⟨ps_continue.weak fun D0 σ H ⟨w, ε, S, r, o⟩ => o w σ H rfl r (Ext.refl w H)⟩
theorem ds_expr {e : Expr} {fe : XE} (he : DE X W e fe) (hs : swapsWith e none pos.line X.env = pure false := by rfl) : DS X W (.Expr e pos) (sExpr fe) := by
  refine ⟨(ps_expr he.pe hs).weak fun D0 σ H ⟨w, ε, S, r, o⟩ => ?_⟩
  exact ⟨w, ε, S, r, (OutS.exp o).imp fun d io1 S1 H1 r1 x1 o1 v dv => OutS.nx o1 r1 (Ext.refl _ _) rfl⟩
theorem ds_ret {e : Expr} {fe : XE} (he : DE X W e fe) : DS X W (.Return (some e) pos) (sRet fe) := by
  refine ⟨(ps_ret he.pe).weak fun D0 σ H ⟨w, ε, S, r, o⟩ => ?_⟩
  exact ⟨w, ε, S, r, (OutS.exp o).imp fun d io1 S1 H1 r1 x1 o1 v dv => o1 _ _ _ v H1 rfl r1 (Ext.refl _ _) dv⟩
/-- a new tuple is handed back -/
theorem ds_retT {es : List Expr} {l : XL} {k : Nat} {pos2 : Pos} (h : DEs X W es l) : DS X W (.Return (some (.Tuple es k pos2)) pos) (sRetT l) := by
  refine ⟨(ps_ret (pe_tup h.pa)).weak fun D0 σ H ⟨w, ε, S, r, o⟩ => ?_⟩
  refine ⟨w, ε, S, r, (OutS.exp o).imp fun ds io1 S1 H1 r1 x1 o1 vs hv => ?_⟩
  by_cases hz : ds.length ≤ big
  · rw [if_pos hz] at o1
    refine ⟨by rw [hv.len]; exact Nat.le_trans hz big_le, fun p hp => ?_⟩
    have g := Grow.upd (o := .tup vs) hp
    refine o1 _ _ _ _ _ rfl (r1.grow g) g.ext ⟨p, vs, ds, rfl, rfl, upd_same, fun z => r1.muh z hp, ?_⟩
    exact Dvs.mono (fun a o _ q _ => g a o q) (fun _ _ z => z) _ _ hv
  · rw [if_neg hz] at o1; exact o1.elim
def sRetN : XS := fun _ => ret (.rt (.sh .none))
theorem ds_retN : DS X W (.Return none pos) sRetN := ⟨ps_retN.weak fun D0 σ H ⟨w, ε, S, r, o⟩ => o _ _ _ _ H rfl r (Ext.refl _ _) .non⟩
theorem ds_if {c : Expr} {a b : List Stmt} {fc : XT} (hc : DT X W c fc) (ha : DSs X W a f) (hb : DSs X W b g) : DS X W (.If c a b pos) (sIf fc f g) := by
  refine ⟨(ps_if hc.pt ha.pss hb.pss).weak fun D0 σ H ⟨w, ε, S, r, o⟩ => ?_⟩
  refine ⟨w, ε, S, r, (OutS.exp o).imp fun t io1 S1 H1 r1 x1 o1 => ?_⟩
  cases t with
  | true => exact ⟨_, ε, S1, r1, o1⟩
  | false => exact ⟨_, ε, S1, r1, o1⟩
/-! ### stores at names -/
section
variable {i : Nat} {fe : XE} {l : XL}
theorem Rp.keepSh {K : PySem.W.Frag} {w : Wd} {ε : Ev} {S : List D} {σ : L2.St} {H : Hp} {v : V} {d : D} (r : Rp K w ε S σ H) (dv : Dv K H w.mu v d) (i : Nat) : Rp K (w.clr [i]) (ε.set i (.sh d)) S (σ.set i (some v)) H :=
  r.set i (some v) (.sh d) ⟨rfl, v, rfl, dv⟩ fun d' => ⟨fun e => (by cases e), fun e => (by cases e)⟩
theorem Ext.clr (w : Wd) (H : Hp) (l : List Nat) : Ext w H (w.clr l) H := ⟨List.prefix_rfl, fun _ h => .inl h, fun _ _ _ h _ => h, fun _ h => .inl (Wd.clr_tc h), fun _ h => h⟩
theorem ds_set_of (h : PS X st (tAsg (tE X.K X.mg W fe) (gName i))) : DS X W st (sSet i fe) := by
  refine ⟨h.weak fun D0 σ H ⟨w, ε, S, r, o⟩ => ?_⟩
  exact ⟨w, ε, S, r, (OutS.exp o).imp fun d io1 S1 H1 r1 x1 o1 v dv => OutS.nx o1 (r1.keepSh dv i) (Ext.clr _ _ _) rfl⟩
theorem ds_fz_of (h : PS X st (tAsg (tL X.K X.mg W l) (gName i))) : DS X W st (sSet i (xFz l)) := by
  refine ⟨h.weak fun D0 σ H ⟨w, ε, S, r, o⟩ => ?_⟩
  unfold sSet xFz at o
  rw [bnd_bnd] at o
  refine ⟨w, ε, S, r, (OutS.exp o).imp fun ds io1 S1 H1 r1 x1 o1 p vs hp hv => ?_⟩
  have g := Grow.upd (o := .lst vs) hp
  exact OutS.nx o1 ((r1.grow g).keepSh (new_lst (fun a z => r1.muh z) hp hv) i) (g.ext.trans (Ext.clr _ _ _)) rfl
/-- a slot takes a list of its own -/
def Wd.own (w : Wd) (i : Nat) (a : Addr) : Wd := { w with om := fun j => if j = i then some a else w.om j }
theorem Rp.ownS {K : PySem.W.Frag} {w : Wd} {ε : Ev} {S : List D} {σ : L2.St} {H : Hp} {p : Addr} {vs : List V} {ds : List D} (r : Rp K w ε S σ H) (hp : H p = none) (hv : Dvs K H w.mu vs ds) (i : Nat) (hi : i < ε.length) :
    Rp K (w.own i p) (ε.set i (.ow (.list ds))) S (σ.set i (some (.ref p))) (upd H p (.lst vs)) ∧ Ext w H (w.own i p) (upd H p (.lst vs)) := by
  have g := Grow.upd (o := .lst vs) hp
  have mu : ∀ a, Kn H a → (w.own i p).mu a → w.mu a := fun a ha z => by
    rcases z with (z | ⟨j, z⟩) | z
    · exact .inl (.inl z)
    · have z : (if j = i then some p else w.om j) = some a := z
      split at z
      · cases z; exact absurd ha (Kn.non hp)
      · exact .inl (.inr ⟨j, z⟩)
    · exact .inr z
  have npi : p ∉ w.io := fun z => r.new hp (.inl (.inl z))
  refine ⟨⟨r.ls, r.nd, fun j k a h1 h2 => ?_, fun j a h1 => ?_, fun a z t => ?_, fun a z => (r.zh a z).grow g, r.tt.ext g, fun n a d h1 h2 => (r.st n a d h1 h2).mono (fun a o _ q _ => g a o q) mu (g.eq (r.st n a d h1 h2).kn.ne), fun j s h1 => ?_, fun j h1 => ?_, by rw [List.length_set, List.length_set]; exact r.le⟩,
    ⟨List.prefix_rfl, fun _ h => .inl h, fun a o _ q _ => g a o q, fun a t => ?_, fun a q => ?_⟩⟩
  · have h1 : (if j = i then some p else w.om j) = some a := h1
    have h2 : (if k = i then some p else w.om k) = some a := h2
    split at h1
    · split at h2
      · omega
      · cases h1; exact absurd hp (r.tch (.inr ⟨k, h2⟩)).ne
    · split at h2
      · cases h2; exact absurd hp (r.tch (.inr ⟨j, h1⟩)).ne
      · exact r.oi j k a h1 h2
  · have h1 : (if j = i then some p else w.om j) = some a := h1
    split at h1
    · cases h1; exact npi
    · exact r.od j a h1
  · rcases t with t | ⟨j, t⟩
    · exact r.zd a z (.inl t)
    · have t : (if j = i then some p else w.om j) = some a := t
      split at t
      · cases t; exact (r.zh p z).ne hp
      · exact r.zd a z (.inr ⟨j, t⟩)
  · by_cases e : i = j
    · subst e
      rw [List.getElem?_set_self hi] at h1
      cases h1
      refine ⟨_, by rw [List.getElem?_set_self (by rw [← r.le]; exact hi)], p, by show (if i = i then some p else w.om i) = some p; simp, rfl, vs, ds, rfl, upd_same, Dvs.mono (fun a o _ q _ => g a o q) mu _ _ hv⟩
    · rw [List.getElem?_set_ne e] at h1
      obtain ⟨o', h2, h3⟩ := r.sl j s h1
      refine ⟨o', by rw [List.getElem?_set_ne e]; exact h2, ?_⟩
      have e2 : (w.own i p).om j = w.om j := by
        show (if j = i then some p else w.om j) = w.om j
        rw [if_neg (fun z => e z.symm)]
      rw [e2]
      exact h3.mono (fun a o _ q _ => g a o q) mu fun a e => g.eq (r.tch (.inr ⟨j, e⟩)).ne
  · rw [List.length_set] at h1
    show (if j = i then some p else w.om j) = none
    rw [if_neg (by omega)]; exact r.so j h1
  · rcases t with t | ⟨j, t⟩
    · exact .inl (.inl t)
    · have t : (if j = i then some p else w.om j) = some a := t
      split at t
      · cases t; exact .inr (Kn.non hp)
      · exact .inl (.inr ⟨j, t⟩)
  · exact g.kn q
theorem ds_own_of (h : PS X st (tAsg (tL X.K X.mg W l) (gName i))) : DS X W st (sOwn i l) := by
  refine ⟨h.weak fun D0 σ H ⟨w, ε, S, r, o⟩ => ?_⟩
  unfold sOwn at o
  by_cases hi : i < ε.length
  · rw [if_pos hi] at o
    refine ⟨w, ε, S, r, (OutS.exp o).imp fun ds io1 S1 H1 r1 x1 o1 p vs hp hv => ?_⟩
    obtain ⟨r2, x2⟩ := r1.ownS hp hv i hi
    exact OutS.nx o1 r2 x2 rfl
  · rw [if_neg hi] at o; exact o.elim
theorem ds_set {e : Expr} {x : Str} {pos' : Pos} (hN : X.N.Nodup) (hi : X.N[i]? = some x) (hx : Loc X.env.scope x) (he : DE X W e fe) (hs : swapsWith e (some (.Name x pos')) pos.line X.env = pure false := by rfl) (hf : X.fn x = true ∨ X.env.scope.names.lookup x = some .local := by first | exact .inl rfl | exact .inr rfl | assumption) : DS X W (.Assign [.Name x pos'] e pos) (sSet i fe) :=
  ds_set_of (ps_set hN hi hx he.pe hs hf)
theorem ds_fz {e : Expr} {x : Str} {pos' : Pos} (hN : X.N.Nodup) (hi : X.N[i]? = some x) (hx : Loc X.env.scope x) (he : DL X W e l) (hs : swapsWith e (some (.Name x pos')) pos.line X.env = pure false := by rfl) (hf : X.fn x = true ∨ X.env.scope.names.lookup x = some .local := by first | exact .inl rfl | exact .inr rfl | assumption) : DS X W (.Assign [.Name x pos'] e pos) (sSet i (xFz l)) :=
  ds_fz_of (ps_set hN hi hx he.pe hs hf)
theorem ds_own {e : Expr} {x : Str} {pos' : Pos} (hN : X.N.Nodup) (hi : X.N[i]? = some x) (hx : Loc X.env.scope x) (he : DL X W e l) (hs : swapsWith e (some (.Name x pos')) pos.line X.env = pure false := by rfl) (hf : X.fn x = true ∨ X.env.scope.names.lookup x = some .local := by first | exact .inl rfl | exact .inr rfl | assumption) : DS X W (.Assign [.Name x pos'] e pos) (sOwn i l) :=
  ds_own_of (ps_set hN hi hx he.pe hs hf)
/-- x = [.. for ..] on one line -/
theorem lc_asg {elt tgE iter : Expr} {ifs : List Expr} {scope : Scope} {own : List (Str × Nat)} {tg : Tg} {fit : XL} {fc : XT} {fe : XE} {x : Str} {py lpos : Pos} (hc : X.calm = true) (hN : X.N.Nodup) (hy : X.N[i]? = some x) (hyl : X.env.scope.names.lookup x = some .local)
    (hsw : swapsWith (.ListComp elt [⟨tgE, iter, ifs, 0⟩] scope lpos) (some (.Name x py)) pos.line X.env = pure true) (hi : DI X W tgE iter fit) (ok : BlkOk X.N X.env.scope scope own) (htg : ∀ i ∈ tgS tg, i ∈ own.map (·.2))
    (hg : ∀ (s : Shared) (H : Hp) (C : Addr) (cl : List (Str × Addr)) (fp : List Addr), DG (X.blk s H scope (compEnvC scope cl C X.env) fp) tgE tg) (ht : ∀ (s : Shared) (H : Hp) (C : Addr) (cl : List (Str × Addr)) (fp : List Addr), DTs (X.blk s H scope (compEnvC scope cl C X.env) fp) W0 ifs fc)
    (he : ∀ (s : Shared) (H : Hp) (C : Addr) (cl : List (Str × Addr)) (fp : List Addr), DE (X.blk s H scope (compEnvC scope cl C X.env) fp) W0 elt fe) (hs : ∀ x, foldedSetIterable iter X.env x = pure x := by intro _; rfl) :
    PS X (.Assign [.Name x py] (.ListComp elt [⟨tgE, iter, ifs, 0⟩] scope lpos) pos) (tAsg (tL X.K X.mg W (lComp fit tg fc fe (own.map (·.2)))) (gName i)) :=
  (ps_setLc (g := tG X.K tg) (tt := tTs X.K X.mg W0 fc) (te := tE X.K X.mg W0 fe) hc hN hy hyl hsw hi.pi ok (fun s H C cl fp => (hg s H C cl fp).pg) (fun s H C cl fp => (ht s H C cl fp).pts) (fun s H C cl fp => (he s H C cl fp).pe) hs).weak fun D0 σ H h => lc_read htg σ H _ h
end
/-- a, b = e -/
theorem ds_unp {e tgE : Expr} {fe : XE} {tg : Tg} (he : DE X W e fe) (hg : DG X tgE tg) (hs : swapsWithSole [tgE] e pos.line X.env = pure false := by rfl) (hw : swappedStores [tgE] e X.env = pure none := by rfl) (h1 : (assignEach [tgE] X.env).map (·.2) = [assign tgE X.env] := by rfl) : DS X W (.Assign [tgE] e pos) (sUnp tg fe) := by
  refine ⟨(ps_asg he.pe hg.pg hs hw h1).weak fun D0 σ H ⟨w, ε, S, r, o⟩ => ?_⟩
  refine ⟨w, ε, S, r, (OutS.exp o).imp fun d io1 S1 H1 r1 x1 o1 v dv => ?_⟩
  cases eb : bindT tg d ε with
  | none => simp only [eb] at o1; exact o1.elim
  | some ε1 =>
    simp only [eb] at o1
    exact ⟨_, ε, S1, d, ε1, r1, dv, eb, fun σ' _ r2 => OutS.nx o1 r2 (Ext.clr _ _ _) rfl⟩
/-! ### loops -/
theorem OutS.imp {K : PySem.W.Frag} {mg : Str → Option Value} {W : WX} {w : Wd} {H : Hp} {o : Option (Res SR)} {D0 D1 : Ends} (h : OutS K mg W w H o D0) (n : ∀ σ H, D0.nx σ H → D1.nx σ H) (rt : ∀ v H, D0.rt v H → D1.rt v H) (b : ∀ σ H, D0.bk σ H → D1.bk σ H) (c : ∀ σ H, D0.ct σ H → D1.ct σ H) : OutS K mg W w H o D1 := by
  cases o with
  | none => exact h
  | some r =>
    cases r with
    | ex e S' => exact h
    | ok a S' =>
      cases a with
      | nx ε' => exact fun w' σ' H' z' r' x' => n _ _ (h w' σ' H' z' r' x')
      | bk ε' => exact fun w' σ' H' z' r' x' => b _ _ (h w' σ' H' z' r' x')
      | ct ε' => exact fun w' σ' H' z' r' x' => c _ _ (h w' σ' H' z' r' x')
      | rt v => exact fun w' ε' σ' u H' z' r' x' q => rt _ _ (h w' ε' σ' u H' z' r' x' q)
/-- a loop's state between two turns -/
structure FS (K : PySem.W.Frag) (mg : Str → Option Value) (W : WX) (w1 : Wd) (H1 : Hp) (tg : Tg) (f : XS) (items : List D) (D0 : Ends) (i : Nat) (σ : L2.St) (H : Hp) : Prop where
  le : i ≤ items.length
  ex : ∃ w ε S, w.zt = w1.zt ∧ Rp K w ε S σ H ∧ Ext w1 H1 w H ∧ OutS K mg W w H (forGo tg f (items.drop i) ε S) D0
theorem for_read {K : PySem.W.Frag} {mg : Str → Option Value} {tg : Tg} {fit : XL} : ∀ D0 σ H, tS K mg W (sFor fit tg f) D0 σ H → tFor (tI K mg W fit) (tG K tg) (tS K mg W f) D0 σ H := by
  intro D0 σ H ⟨w, ε, S, r, o⟩
  refine ⟨w, ε, S, r, (OutS.exp o).imp fun items io1 S1 H1 r1 x1 o1 J y => ?_⟩
  refine ⟨fun i m σ' H' => m = items.length - i ∧ FS K mg W (w.at io1) H1 tg f items D0 i σ' H', ⟨items.length, by simp, Nat.zero_le _, _, ε, S1, rfl, r1, Ext.refl _ _, by simpa using o1⟩, ?_⟩
  rintro i m σ' H' ⟨rfl, hle, w2, ε2, S2, z2, r2, x2, o2⟩
  obtain ⟨yi, yn⟩ := y.2 i _ H' x2.xw fun a z => r2.muz z
  by_cases hlt : i < items.length
  · have hit : items[i]? = some items[i] := List.getElem?_eq_getElem hlt
    obtain ⟨jgo, jy⟩ := yi _ hit
    refine .inr ⟨jgo, fun σ3 H3 => FS K mg W (w.at io1) H1 tg f items D0 (i + 1) σ3 H3, fun σ3 H3 c => ⟨items.length - (i + 1), by omega, rfl, c⟩, fun x H3 yl => ?_⟩
    obtain ⟨g3, dv⟩ := jy x H3 yl
    rw [List.drop_eq_getElem_cons hlt] at o2
    unfold forGo at o2
    cases eb : bindT tg items[i] ε2 with
    | none => simp only [eb] at o2; exact o2.elim
    | some ε3 =>
      simp only [eb] at o2
      have r3 := r2.grow g3
      refine ⟨w2, ε2, S2, _, ε3, r3, dv, eb, fun σ4 _ r4 => ⟨_, ε3, S2, r4, ?_⟩⟩
      have x4 : Ext (w.at io1) H1 (w2.clr (tgS tg)) H3 := (x2.trans g3.ext).trans (Ext.clr _ _ _)
      have o3 := OutS.anch (w1 := w2.clr (tgS tg)) (H1 := H3) o2 (g3.ext.trans (Ext.clr _ _ _)) rfl
      unfold Tn.bnd at o3
      cases e : f ε3 S2 with
      | none => simp only [e] at o3; exact o3
      | some q =>
        simp only [e] at o3
        cases q with
        | ex z S5 => exact o3
        | ok a S5 =>
          cases a with
          | nx ε5 => exact fun w5 σ5 H5 z5 r5 x5 => ⟨hlt, w5, ε5, S5, z5.trans z2, r5, x4.trans x5, OutS.anch o3 x5 z5⟩
          | ct ε5 => exact fun w5 σ5 H5 z5 r5 x5 => ⟨hlt, w5, ε5, S5, z5.trans z2, r5, x4.trans x5, OutS.anch o3 x5 z5⟩
          | bk ε5 => exact o3
          | rt v => exact o3
  · have hi : i = items.length := by omega
    refine .inl ⟨yn (by omega), ?_⟩
    rw [hi, List.drop_length] at o2
    exact OutS.nx o2 r2 (Ext.refl _ _) rfl
theorem ds_for {iter tgE : Expr} {body : List Stmt} {fit : XL} {tg : Tg} (hc : X.calm = true) (po : PassesOwn (model X.prog X.w) X.A X.env X.xe) (hi : DI X W tgE iter fit) (hg : DG X tgE tg) (hb : DSs X W body f) (hs : ∀ x, foldedSetIterable iter X.env x = pure x := by intro _; rfl) :
    DS X W (.For tgE iter body [] pos) (sFor fit tg f) := ⟨(ps_for po hc hi.pi hg.pg hb.pss hs).weak for_read⟩
theorem ds_while {c : Expr} {body : List Stmt} {fc : XT} (po : PassesOwn (model X.prog X.w) X.A X.env X.xe) (hc : DT X W c fc) (hb : DSs X W body f) : DS X W (.While c body [] pos) (sWhile fc f) := by
  refine ⟨(ps_while po hc.pt hb.pss).weak fun D0 σ H ⟨w, ε, S, r, o⟩ => ?_⟩
  refine ⟨fun m σ' H' => ∃ w2 ε2 S2, w2.zt = w.zt ∧ Rp X.K w2 ε2 S2 σ' H' ∧ OutS X.K X.mg W w2 H' (whGo fc f m ε2 S2) D0, ⟨fuel, w, ε, S, rfl, r, o⟩, ?_⟩
  rintro m σ' H' ⟨w2, ε2, S2, z2, r2, o2⟩
  cases m with
  | zero => exact o2.elim
  | succ m =>
    unfold whGo at o2
    refine ⟨w2, ε2, S2, r2, (OutS.exp o2).imp fun t io3 S3 H3 r3 x3 o3 => ?_⟩
    cases t with
    | false => exact OutS.nx o3 r3 (Ext.refl _ _) rfl
    | true =>
      simp only [if_true] at o3
      refine ⟨fun σ5 H5 => ∃ w5 ε5 S5, w5.zt = w.zt ∧ Rp X.K w5 ε5 S5 σ5 H5 ∧ OutS X.K X.mg W w5 H5 (whGo fc f m ε5 S5) D0, fun σ5 H5 h => ⟨m, Nat.lt_succ_self m, h⟩, ?_⟩
      refine ⟨_, ε2, S3, r3, ?_⟩
      unfold Tn.bnd at o3
      cases e : f ε2 S3 with
      | none => simp only [e] at o3; exact o3
      | some q =>
        simp only [e] at o3
        cases q with
        | ex z S5 => exact o3
        | ok a S5 =>
          cases a with
          | nx ε5 => exact fun w5 σ5 H5 z5 r5 x5 => ⟨w5, ε5, S5, z5.trans z2, r5, OutS.anch o3 x5 z5⟩
          | ct ε5 => exact fun w5 σ5 H5 z5 r5 x5 => ⟨w5, ε5, S5, z5.trans z2, r5, OutS.anch o3 x5 z5⟩
          | bk ε5 => exact o3
          | rt v => exact o3
end
end Tn
end

section
set_option Elab.async false
set_option linter.all false
set_option maxRecDepth 100000
set_option maxHeartbeats 1000000
namespace Tn
open PySem PySem.Spec PyProof.Rows L2
variable [TB]
section
variable {K : PySem.W.Frag} {w : Wd} {ε : Ev} {S : List D} {σ : L2.St} {H : Hp} {a : Addr} {us vs : List V} {ds es : List D}
theorem tc_upd {b : Addr} {o : Option HO} {x : HO} (t : w.tc a) (n : ¬ w.mu b) (q : H b = o) : upd H a x b = o := by
  rw [upd_ne (fun e => n (by subst e; exact .inl t))]; exact q
theorem Ext.put (r : Rp K w ε S σ H) (t : w.tc a) (x : HO) (nx : Nt x := by exact nt_lst) : Ext w H w (upd H a x) := ⟨List.prefix_rfl, fun _ h => .inl h, fun b o n q _ => by
    rw [upd_ne (fun e => n (by subst e; exact t))]; exact q, fun _ h => .inl h, fun b q => by
  by_cases e : b = a
  · subst e; exact ⟨x, upd_same, nx⟩
  · obtain ⟨u, q1, q2⟩ := q; exact ⟨u, by rw [upd_ne e]; exact q1, q2⟩⟩
theorem Dvs.put (k : Dvs K H w.mu vs es) (t : w.tc a) (x : HO) : Dvs K (upd H a x) w.mu vs es := Dvs.mono (fun b o n q _ => tc_upd t n q) (fun _ _ z => z) es vs k
/-- a list of one's own changes -/
theorem Rp.putOw {i : Nat} {d0 : D} (r : Rp K w ε S σ H) (e : ε[i]? = some (.ow d0)) (ha : w.om i = some a) (k : Dvs K H w.mu vs es) : Rp K w (ε.set i (.ow (.list es))) S σ (upd H a (.lst vs)) where
  ls := r.ls
  nd := r.nd
  oi := r.oi
  od := r.od
  zd := r.zd
  zh := fun b z => by
    have hb : b ≠ a := fun e => by subst e; exact r.zd b z (.inr ⟨i, ha⟩)
    obtain ⟨u, q1, q2⟩ := r.zh b z
    exact ⟨u, by rw [upd_ne hb]; exact q1, q2⟩
  tt := by obtain ⟨o, hx, mo⟩ := r.tcl (.inr ⟨i, ha⟩); exact tabs_mo r.tt hx mo
  st := fun n b d h1 h2 => by
    have hb : b ≠ a := fun e => by subst e; exact r.od i b ha (List.mem_of_getElem? h1)
    exact (r.st n b d h1 h2).mono (fun c o n q _ => tc_upd (.inr ⟨i, ha⟩) n q) (fun _ _ z => z) (upd_ne hb)
  sl := fun j s h1 => by
    have hi : i < ε.length := (List.getElem?_eq_some_iff.mp e).1
    by_cases ej : i = j
    · subst ej
      rw [List.getElem?_set_self hi] at h1
      cases h1
      obtain ⟨o, h2, h3⟩ := r.sl i _ e
      obtain ⟨b, e1, e2, _⟩ := h3
      rw [ha] at e1; cases e1
      exact ⟨o, h2, a, ha, e2, vs, es, rfl, upd_same, Dvs.put k (.inr ⟨i, ha⟩) _⟩
    · rw [List.getElem?_set_ne ej] at h1
      obtain ⟨o, h2, h3⟩ := r.sl j s h1
      exact ⟨o, h2, h3.mono (fun c o n q _ => tc_upd (.inr ⟨i, ha⟩) n q) (fun _ _ z => z) fun b e2 => upd_ne fun e3 => by subst e3; exact ej (r.oi i j _ ha e2)⟩
  so := fun j h => r.so j (by rwa [List.length_set] at h)
  le := by rw [List.length_set]; exact r.le
/-- a list of the store changes -/
theorem Rp.putRf {n : Nat} (r : Rp K w ε S σ H) (ha : w.io[n]? = some a) (k : Dvs K H w.mu vs es) : Rp K w ε (S.set n (.list es)) σ (upd H a (.lst vs)) where
  ls := by rw [List.length_set]; exact r.ls
  nd := r.nd
  oi := r.oi
  od := r.od
  zd := r.zd
  zh := fun b z => by
    have hb : b ≠ a := fun e => by subst e; exact r.zd b z (.inl (List.mem_of_getElem? ha))
    obtain ⟨u, q1, q2⟩ := r.zh b z
    exact ⟨u, by rw [upd_ne hb]; exact q1, q2⟩
  tt := by obtain ⟨o, hx, mo⟩ := r.tcl (.inl (List.mem_of_getElem? ha)); exact tabs_mo r.tt hx mo
  st := fun m b d h1 h2 => by
    have hn : n < S.length := by rw [← r.ls]; exact (List.getElem?_eq_some_iff.mp ha).1
    by_cases em : n = m
    · subst em
      rw [ha] at h1; cases h1
      rw [List.getElem?_set_self hn] at h2
      cases h2
      exact ⟨vs, es, rfl, upd_same, Dvs.put k (.inl (List.mem_of_getElem? ha)) _⟩
    · rw [List.getElem?_set_ne em] at h2
      have hb : b ≠ a := fun e => by
        subst e
        have h3 := (List.getElem?_eq_some_iff.mp h1)
        have h4 := (List.getElem?_eq_some_iff.mp ha)
        exact em ((List.getElem_inj r.nd).mp (h4.2.trans h3.2.symm))
      exact (r.st m b d h1 h2).mono (fun c o n q _ => tc_upd (.inl (List.mem_of_getElem? ha)) n q) (fun _ _ z => z) (upd_ne hb)
  sl := fun j s h1 => by
    obtain ⟨o, h2, h3⟩ := r.sl j s h1
    exact ⟨o, h2, h3.mono (fun c o n q _ => tc_upd (.inl (List.mem_of_getElem? ha)) n q) (fun _ _ z => z) fun b e2 => upd_ne fun e3 => by subst e3; exact r.od j b e2 (List.mem_of_getElem? ha)⟩
  so := r.so
  le := r.le
theorem mutL_at {i : Nat} (r : Rp K w ε S σ H) (h : mutL ε i = true) : ∃ a us, σ[i]? = some (some (.ref a)) ∧ H a = some (.lst us) := by
  unfold mutL at h
  cases e : ε[i]? with
  | none => rw [e] at h; cases h
  | some s =>
    rw [e] at h
    obtain ⟨o, h1, h2⟩ := r.sl i s e
    cases s with
    | ow d =>
      obtain ⟨a, _, rfl, us, ds, _, h3, _⟩ := h2
      exact ⟨a, us, h1, h3⟩
    | rf n =>
      obtain ⟨_, a, rfl, hn⟩ := h2
      have hl : n < S.length := by rw [← r.ls]; exact (List.getElem?_eq_some_iff.mp hn).1
      obtain ⟨us, ds, _, h3, _⟩ := r.st n a _ hn (List.getElem?_eq_getElem hl)
      exact ⟨a, us, h1, h3⟩
    | _ => cases h
theorem chg_read {mg : Str → Option Value} {W : WX} {i : Nat} {g : List D → Option (List D)} {D0 : Ends} (r : Rp K w ε S σ H) (o : OutS K mg W w H (chg i g ε S) D0) :
    ∃ a us xs ys, σ[i]? = some (some (.ref a)) ∧ H a = some (.lst us) ∧ Dvs K H w.mu us xs ∧ g xs = some ys ∧ ∀ vs, Dvs K H w.mu vs ys → D0.nx σ (upd H a (.lst vs)) := by
  unfold chg at o
  cases e : ε[i]? with
  | none => rw [e] at o; exact o.elim
  | some s =>
    rw [e] at o
    obtain ⟨q, h1, h2⟩ := r.sl i s e
    cases s with
    | ow d =>
      obtain ⟨a, e1, rfl, us, ds, rfl, h3, h4⟩ := h2
      dsimp only at o
      cases eg : g ds with
      | none => rw [eg] at o; exact o.elim
      | some ys =>
        rw [eg] at o
        exact ⟨a, us, ds, ys, h1, h3, h4, eg, fun vs hv => OutS.nx o (r.putOw e e1 hv) (Ext.put r (.inr ⟨i, e1⟩) _) rfl⟩
    | rf n =>
      obtain ⟨_, a, rfl, hn⟩ := h2
      dsimp only at o
      cases es : S[n]? with
      | none => rw [es] at o; exact o.elim
      | some d =>
        rw [es] at o
        obtain ⟨us, ds, rfl, h3, h4⟩ := r.st n a d hn es
        dsimp only at o
        cases eg : g ds with
        | none => rw [eg] at o; exact o.elim
        | some ys =>
          rw [eg] at o
          exact ⟨a, us, ds, ys, h1, h3, h4, eg, fun vs hv => o w σ _ rfl (r.putRf hn hv) (Ext.put r (.inl (List.mem_of_getElem? hn)) _)⟩
    | _ => exact o.elim
end
theorem OutS.ite {K : PySem.W.Frag} {mg : Str → Option Value} {W : WX} {w : Wd} {S : List D} {H : Hp} {c : Prop} [Decidable c] {m : M SR} {D0 : Ends} (o : OutS K mg W w H ((if c then m else stk) S) D0) : c ∧ OutS K mg W w H (m S) D0 := by
  by_cases h : c
  · rw [if_pos h] at o; exact ⟨h, o⟩
  · rw [if_neg h] at o; exact o.elim
section
variable {X : Cx} {W : WX} {i : Nat} {x : Str} {e k : Expr} {fe fk : XE} {pos p1 p2 p3 : Pos}
theorem ds_app (ho : PE X (.Name x p1) (tVar i)) (he : DE X W e fe) (hs : swapsWith (.Call (.Attribute (.Name x p1) "append" p2) [e] [] p3) none pos.line X.env = pure false := by rfl) (hbase : attributeBase (.Name x p1) "append" X.env (eval (.Name x p1) X.env) = eval (.Name x p1) X.env := by rfl)
    (hline : (p2.endLine == p3.line) = true := by rfl) (hst : starEach [e] X.env = (false, eval e X.env) :: starEach [] X.env := by rfl)
    (hfew : ((backTo p3 (starEach [e] X.env)).all (fun x => !x.1) && (backToKw p3 (keywordEach [] X.env)).all (fun x => x.1.isSome)
      && decide ([e].length + ([] : List Keyword).length + (if ([] : List Keyword).isEmpty then 0 else 1) < 30)) = true := by rfl) :
    DS X W (.Expr (.Call (.Attribute (.Name x p1) "append" p2) [e] [] p3) pos) (sApp i fe) := by
  refine ⟨(ps_expr (pe_bm PySem.F.plainAttrs_list PySem.F.slot_list_append PySem.F.type_list_append mt_append ho (pa_cons he.pe pa_nil hst) hbase hfew hline hst (by rfl)) hs).weak fun D0 σ H ⟨w, ε, S, r, o⟩ => ?_⟩
  unfold sApp at o
  obtain ⟨hm, o⟩ := o.ite
  obtain ⟨a, us, h1, h2⟩ := mutL_at r hm
  refine ⟨_, h1, .inl ⟨rfl, us, .of h2⟩, w, ε, S, r, (OutS.exp o).imp fun d io1 S1 H1 r1 x1 o1 v dv => ?_⟩
  obtain ⟨a', us', xs, ys, g1, g2, g3, g4, q⟩ := chg_read r1 o1
  rw [h1] at g1; cases g1
  unfold gApp at g4
  split at g4
  · rename_i hz
    cases g4
    exact ⟨a, us', v, rfl, rfl, g2, by rw [g3.len]; exact Nat.lt_of_lt_of_le hz big_le, q _ (g3.app (.cons dv .nil))⟩
  · cases g4
section
open AutoSeq1 (wpAny_loadPart' idx_int)
theorem ext_meets (l : Addr) (items : Array Value) (n : Nat) (b : Addr) (o : Obj) (T : String) (items2 : Array Value) (n2 : Nat) (hT : T = "list" ∨ T = "tuple") (hc : o.cls = .type T) (hd : o.data = .seq items2 n2) (h0 : items.size + items2.size ≤ sizeLine) :
    Meets (Builtin.«list.extend» ⟨[.ref l, .ref b], []⟩) (fun _ R s => s.heap.get? l = some { cls := .type "list", dict := none, data := .seq items n, slots := #[] } ∧ s.heap.get? b = some o ∧ R (.ok (.ret Value.none)) { s with heap := s.heap.update l (Obj.mapSeq fun x => x ++ items2), toks := s.toks }) :=
  .of_wp fun prog w A R s h => by
    obtain ⟨hp, g, d, tk, os⟩ := s
    obtain ⟨hl, hb, h⟩ := h
    have long : ¬ (!items.isEmpty && Builtin.List.listTooLong (items.size + items2.size)) = true := by
      rw [notLongL h0, Bool.and_false]; exact Bool.false_ne_true
    show wpAny (model prog w) A.in1 (Builtin.List.listExtendWith (.ref l) (.ref b) .none) _ _ _
    unfold Builtin.List.listExtendWith
    refine wpAny_bind (wpAny_typeOf ⟨o, hb, hc⟩ ?_)
    have t : (Builtin.List.listSameRef (.ref l) (.ref b) || Value.type T == Value.type "list" || Value.type T == Value.type "tuple") = true := by
      rcases hT with rfl | rfl <;> simp
    rw [if_pos t]
    refine wpAny_bind (PyProof.Rows.listItems_at hb hd (wpAny_bind (PyProof.Rows.listItems_at hl rfl ?_)))
    rw [if_neg long]
    refine wpAny_bind (PyProof.Rows.listUpdate_at hl rfl (wpAny_pure ⟨_, rfl, h⟩) (by omega) (by rw [Array.size_append]; omega))
end
/-- x.extend(e), e a list or tuple -/
def rExt2 (K : PySem.W.Frag) : V → List V → Hp → VK → Prop := fun x vs H Q => ∃ l b xs zs, x = .ref l ∧ vs = [.ref b] ∧ H l = some (.lst xs) ∧ (SqL K H b zs ∨ SqT K H b zs) ∧ xs.length + zs.length ≤ sizeLine ∧ Q .non (upd H l (.lst (xs ++ zs)))
theorem mt_ext2 : MtM X "list.extend" (rExt2 X.K) := by
  intro pins s σ H x vs v us Q I rx rv h
  obtain ⟨l, b, xs, zs, rfl, rfl, hH, hB, hz, q⟩ := h
  cases rx
  obtain ⟨u, rfl, ru⟩ := rv.one
  cases ru
  obtain ⟨z, its, n, r, hl, e⟩ := I.lstM hH
  have fin : ∀ (its2 : List Value) (o : Obj) (T : String) (n2 : Nat), Vals zs its2 → (T = "list" ∨ T = "tuple") → s.heap.get? b = some o → o.cls = .type T → o.data = .seq its2.toArray n2 → wpAny (model X.prog X.w) X.A (call (.builtin "list.extend") [.ref l, .ref b]) (EP X pins σ Q) X.xe s := by
    intro its2 o T n2 r2 hT ho hc hd
    refine call_meets F.slot_list_extend ⟨_, e, rfl⟩ F.entry_list_extend (F.args_list_extend_2 _ _) (ext_meets l its.toArray n b o T its2.toArray n2 hT hc hd (by rw [List.size_toArray, List.size_toArray, ← r.length, ← r2.length]; exact hz)) ⟨e, ho, ?_⟩
    refine ⟨.non, _, I.lset (its' := its ++ its2) hH e (by simp) (r.append r2) (by rw [List.length_append]; exact hz), rfl, q⟩
  rcases hB with hB | hB
  · obtain ⟨its2, r2, p, _⟩ := I.list hB
    obtain ⟨o, ho, hc, n2, hd⟩ := p.isList
    exact fin its2 o "list" n2 r2 (.inl rfl) ho hc hd
  · obtain ⟨its2, r2, p, _⟩ := I.tuple hB
    obtain ⟨o, ho, hc, n2, hd⟩ := p
    exact fin its2 o "tuple" n2 r2 (.inr rfl) ho hc hd
theorem ds_ext (ho : PE X (.Name x p1) (tVar i)) (he : DE X W e fe) (hs : swapsWith (.Call (.Attribute (.Name x p1) "extend" p2) [e] [] p3) none pos.line X.env = pure false := by rfl) (hbase : attributeBase (.Name x p1) "extend" X.env (eval (.Name x p1) X.env) = eval (.Name x p1) X.env := by rfl)
    (hline : (p2.endLine == p3.line) = true := by rfl) (hst : starEach [e] X.env = (false, eval e X.env) :: starEach [] X.env := by rfl)
    (hfew : ((backTo p3 (starEach [e] X.env)).all (fun x => !x.1) && (backToKw p3 (keywordEach [] X.env)).all (fun x => x.1.isSome)
      && decide ([e].length + ([] : List Keyword).length + (if ([] : List Keyword).isEmpty then 0 else 1) < 30)) = true := by rfl) :
    DS X W (.Expr (.Call (.Attribute (.Name x p1) "extend" p2) [e] [] p3) pos) (sExt i fe) := by
  refine ⟨(ps_expr (pe_bm PySem.F.plainAttrs_list PySem.F.slot_list_extend PySem.F.type_list_extend mt_ext2 ho (pa_cons he.pe pa_nil hst) hbase hfew hline hst (by rfl)) hs).weak fun D0 σ H ⟨w, ε, S, r, o⟩ => ?_⟩
  unfold sExt at o
  obtain ⟨hm, o⟩ := o.ite
  obtain ⟨a, us, h1, h2⟩ := mutL_at r hm
  refine ⟨_, h1, .inl ⟨rfl, us, .of h2⟩, w, ε, S, r, (OutS.exp o).imp fun d io1 S1 H1 r1 x1 o1 v dv => ?_⟩
  obtain ⟨a', us', xs, ys, g1, g2, g3, g4, q⟩ := chg_read r1 o1
  rw [h1] at g1; cases g1
  unfold gExt at g4
  split at g4
  · split at g4
    · rename_i hz
      cases g4
      obtain ⟨b, zs, rfl, hb, k2⟩ := dv.lstv
      exact ⟨a, b, us', zs, rfl, rfl, g2, .inl (.of hb), by rw [g3.len, k2.len]; exact Nat.le_trans hz big_le, q _ (g3.app k2)⟩
    · cases g4
  · split at g4
    · rename_i hz
      cases g4
      obtain ⟨b, zs, rfl, hb, k2⟩ := Rv.tup (.inl dv)
      exact ⟨a, b, us', zs, rfl, rfl, g2, .inr hb, by rw [g3.len, k2.len]; exact Nat.le_trans hz big_le, q _ (g3.app k2)⟩
    · cases g4
  · cases g4
theorem ds_put (ho : PE X (.Name x p1) (tVar i)) (hk : DE X W k fk) (he : DE X W e fe) (hs : swapsWithSole [.Subscript (.Name x p1) k p2] e pos.line X.env = pure false := by rfl) (hw : swappedStores [.Subscript (.Name x p1) k p2] e X.env = pure none := by rfl)
    (h1 : (assignEach [.Subscript (.Name x p1) k p2] X.env).map (·.2) = [assign (.Subscript (.Name x p1) k p2) X.env] := by rfl)
    (hg : PG X (.Subscript (.Name x p1) k p2) (gSub (tVar i) (tE X.K X.mg W fk) rSetL)) : DS X W (.Assign [.Subscript (.Name x p1) k p2] e pos) (sPut i fk fe) := by
  refine ⟨(ps_asg he.pe hg hs hw h1).weak fun D0 σ H ⟨w, ε, S, r, o⟩ => ?_⟩
  unfold sPut at o
  refine ⟨w, ε, S, r, (OutS.exp o).imp fun d io1 S1 H1 r1 x1 o1 v dv => ?_⟩
  obtain ⟨hm, o1⟩ := o1.ite
  obtain ⟨a, us, h1, h2⟩ := mutL_at r1 hm
  refine ⟨_, h1, w.at io1, ε, S1, r1, (OutS.exp o1).imp fun kd io2 S2 H2 r2 x2 o2 kv kdv => ?_⟩
  obtain ⟨a', us', xs, ys, g1, g2, g3, g4, q⟩ := chg_read r2 o2
  rw [h1] at g1; cases g1
  unfold gPut at g4
  split at g4
  · split at g4
    · rename_i j hj
      cases g4
      cases kdv
      exact ⟨a, us', _, j, rfl, rfl, g2, by rw [g3.len]; exact hj, q _ (g3.set j (dv.exx x2))⟩
    · cases g4
  · cases g4
/-- x op= e -/
theorem ds_aug {op : Operator} {g : D → D → Option D} (hN : X.N.Nodup) (hi : X.N[i]? = some x) (hx : Loc X.env.scope x) (he : DE X W e fe) (ho : OpR X (inplaceOp op) (rD2 X.K g)) (hf : X.fn x = true ∨ X.env.scope.names.lookup x = some .local := by first | exact .inl rfl | exact .inr rfl | assumption) :
    DS X W (.AugAssign (.Name x p1) op e pos) (sAug i g fe) := by
  refine ⟨(ps_aug hN hi hx he.pe (ti := rD2 X.K g) (fun pins s σ H x y v u Q I rx ry q => ho pins s σ H x y v u Q I rx ry q) hf).weak fun D0 σ H ⟨w, ε, S, r, o⟩ => ?_⟩
  unfold sAug at o
  cases es : ε[i]? with
  | none => rw [es] at o; exact o.elim
  | some s =>
    rw [es] at o
    cases s with
    | sh d0 =>
      obtain ⟨q, h1, h2⟩ := r.sl i _ es
      obtain ⟨_, v0, rfl, dv0⟩ := h2
      refine ⟨v0, h1, w, ε, S, r, (OutS.exp o).imp fun d io1 S1 H1 r1 x1 o1 v dv => ?_⟩
      have o1 := OutS.exp (ε := ε) (σ := σ) o1
      obtain ⟨d2, e2, k2⟩ := o1.lft r1
      exact ⟨_, d0, d, d2, fun a z => r1.muh z, .inl (dv0.exx x1), .inl dv, e2, fun v' H' g' dv' => OutS.nx (k2 H' g') ((r1.grow g').keepSh dv' i) (Ext.clr _ _ _) rfl⟩
    | _ => exact o.elim
theorem od_iadd : OpR X (inplaceOp .Add) (rD2 X.K opAddI) := by
  intro pins s σ H x y v u Q I rx ry h
  obtain ⟨mu, d1, d2, d, m, h1, h2, e, q⟩ := h
  unfold opAddI at e
  split at e
  · cases e; exact ip_add pins s σ H x y v u Q I rx ry ⟨_, _, h1.int, h2.int, q _ H (Grow.refl H) (.int _)⟩
  · cases e
theorem od_isub : OpR X (inplaceOp .Sub) (rD2 X.K opSub) := by
  intro pins s σ H x y v u Q I rx ry h
  obtain ⟨mu, d1, d2, d, m, h1, h2, e, q⟩ := h
  unfold opSub at e
  split at e
  · cases e; exact ip_sub pins s σ H x y v u Q I rx ry ⟨_, _, h1.int, h2.int, q _ H (Grow.refl H) (.int _)⟩
  · cases e
/-- a list of one's own becomes one that nobody changes -/
theorem Rp.frz {K : PySem.W.Frag} {w : Wd} {ε : Ev} {S : List D} {σ : L2.St} {H : Hp} {d : D} (r : Rp K w ε S σ H) (e : ε[i]? = some (.ow d)) : Rp K (w.clr [i]) (ε.set i (.sh d)) S σ H := by
  obtain ⟨o, h1, a, e1, rfl, us, ds, rfl, h3, h4⟩ := r.sl i _ e
  have hi : i < ε.length := (List.getElem?_eq_some_iff.mp e).1
  have na : ¬ (w.clr [i]).mu a := fun z => by
    rcases z with (z | ⟨j, z⟩) | z
    · exact r.od i a e1 z
    · have z : (if j ∈ [i] then none else w.om j) = some a := z
      split at z
      · cases z
      · rename_i hj; exact hj (by rw [r.oi j i a z e1]; exact List.mem_singleton.mpr rfl)
    · exact r.zd a z (.inr ⟨i, e1⟩)
  have k := r.setc i (some (.ref a)) (.sh (.list ds)) ⟨rfl, _, rfl, .lst h3 na (Dvs.mono (fun _ _ _ q _ => q) (fun _ _ z => Wd.clr_mu z) _ _ h4)⟩ fun d' => ⟨fun e => (by cases e), fun e => (by cases e)⟩
  have e2 : σ.set i (some (V.ref a)) = σ := by
    apply List.ext_getElem?
    intro j
    by_cases ej : i = j
    · subst ej; rw [List.getElem?_set_self (by rw [← r.le]; exact hi), h1]
    · rw [List.getElem?_set_ne ej]
  rw [e2] at k
  exact k
theorem dss_frz {sts : List Stmt} {f : XS} (h : DSs X W sts f) : DSs X W sts (sFrz i f) := by
  refine ⟨h.pss.weak fun D0 σ H ⟨w, ε, S, r, o⟩ => ?_⟩
  unfold sFrz at o
  cases es : ε[i]? with
  | none => rw [es] at o; exact o.elim
  | some s =>
    rw [es] at o
    cases s with
    | ow d => exact ⟨w.clr [i], _, S, r.frz es, OutS.anch o (Ext.clr _ _ _) rfl⟩
    | _ => exact o.elim
/-! ### several names at once -/
inductive PcOk (X : Cx) (W : WX) : Expr → Pc → Prop
  | v {e : Expr} {f : XE} : DE X W e f → PcOk X W e (.v f)
  | n {e : Expr} {l : XL} : DL X W e l → PcOk X W e (.n l)
/-- the list laid at p, that no value holds, becomes slot i's own -/
theorem Rp.ownZ {K : PySem.W.Frag} {w : Wd} {ε : Ev} {S : List D} {σ : L2.St} {H : Hp} {p : Addr} {us : List V} {ds : List D} (r : Rp K (w.ad p) ε S σ H) (hz : ¬ w.z p) (hp : H p = some (.lst us)) (k : Dvs K H (w.ad p).mu us ds) (i : Nat) (hi : i < ε.length) :
    Rp K (w.own i p) (ε.set i (.ow (.list ds))) S (σ.set i (some (.ref p))) H := by
  have := ((Rp.del r hz hp).ownS del_same (Dvs.del k) i hi).1
  rwa [upd_del hp] at this
theorem own_mu {w : Wd} {i : Nat} {p b : Addr} (h : (w.own i p).mu b) : (w.ad p).mu b := by
  rcases h with (h | ⟨j, h⟩) | h
  · exact .inl (.inl h)
  · have h : (if j = i then some p else w.om j) = some b := h
    split at h
    · cases h; exact .inr (.inr rfl)
    · exact .inl (.inr ⟨j, h⟩)
  · exact .inr (.inl h)
theorem OutS.qx {α : Type} {K : PySem.W.Frag} {mg : Str → Option Value} {W : WX} {w : Wd} {S : List D} {H : Hp} {D0 : Ends} {m : M α} {f : α → Sl} {k : Sl → M SR} (o : OutS K mg W w H (Tn.bnd (qt (Tn.bnd m fun d => ret (f d))) k S) D0) :
    ∃ d S2, m S = some (.ok d S2) ∧ OutS K mg W w H (k (f d) S2) D0 := by
  unfold Tn.bnd qt at o
  cases e : m S with
  | none => simp only [e] at o; exact o.elim
  | some r =>
    cases r with
    | ex z S1 => simp only [e] at o; exact o.elim
    | ok d S1 =>
      simp only [e] at o
      exact ⟨d, S1, rfl, o⟩
theorem Dvs.layd {K : PySem.W.Frag} {w : Wd} {H : Hp} {p : Addr} {vs : List V} {ds : List D} (hp : H p = none) (h : Dvs K H w.mu vs ds) (u : HO) : Dvs K (upd H p u) (w.ad p).mu vs ds :=
  Dvs.mono (fun a o _ q _ => Grow.upd hp a o q) (fun a ha z => by
    rcases Wd.ad_mu.mp z with z | z
    · exact z
    · subst z; exact absurd ha (Kn.non hp)) ds vs h
/-- the same with what the first piece laid owned by its name -/
theorem ext_par {w : Wd} {H H2 : Hp} {io2 : List Addr} {p : Addr} {us : List V} (hp : H p = none) (x : Exx (w.ad p) (upd H p (.lst us)) io2 H2) (i : Nat) : Ext w H ((w.at io2).own i p) H2 :=
  ⟨x.pre, fun a z => .inl z, fun a u n q => x.kw a u (fun z => n (.inl z)) (Grow.upd hp a u q), fun a t => by
    rcases t with t | ⟨j, t⟩
    · rcases x.ni a t with t | t
      · exact .inl (.inl t)
      · exact .inr fun k => t ((Grow.upd hp).kn k)
    · have t : (if j = i then some p else w.om j) = some a := t
      split at t
      · cases t; exact .inr (Kn.non hp)
      · exact .inl (.inr ⟨j, t⟩), fun a h => x.dm a ((Grow.upd hp).kn h)⟩
section
variable {j : Nat} {y : Str} {a b : Expr} {px py pt pt2 : Pos} {kt k2 : Nat}
theorem ds_par2 {p q : Pc} (hc : X.calm = true) (hN : X.N.Nodup) (hi : X.N[i]? = some x) (hj : X.N[j]? = some y) (hij : i ≠ j) (hx : X.env.scope.names.lookup x = some .local) (hy : X.env.scope.names.lookup y = some .local)
    (ha : PcOk X W a p) (hb : PcOk X W b q) (hw : swappedStores [.Tuple [.Name x px, .Name y py] kt pt] (.Tuple [a, b] k2 pt2) X.env = pure (some [x, y]))
    (hs : swapsWithSole [.Tuple [.Name x px, .Name y py] kt pt] (.Tuple [a, b] k2 pt2) pos.line X.env = pure false := by rfl)
    (h1 : starEach [a, b] X.env = (false, eval a X.env) :: starEach [b] X.env := by rfl) (h2 : starEach [b] X.env = (false, eval b X.env) :: starEach [] X.env := by rfl) :
    DS X W (.Assign [.Tuple [.Name x px, .Name y py] kt pt] (.Tuple [a, b] k2 pt2) pos) (sPar2 i j p q) := by
  cases ha with
  | v ha =>
    rename_i f
    cases hb with
    | v hb =>
      rename_i g
      refine ⟨(ps_par hc hN hi hj hij hx hy (pa_cons ha.pe (pa_cons hb.pe pa_nil h2) h1) hw hs).weak fun D0 σ H ⟨w, ε, S, r, o⟩ => ?_⟩
      unfold sPar2 pcE pcQ at o
      obtain ⟨hl, o⟩ := o.ite
      simp only [bnd_bnd, ret_bnd] at o
      refine ⟨w, ε, S, r, (OutS.exp o).imp fun d io1 S1 H1 r1 x1 o1 v dv => ⟨w.at io1, ε, S1, r1, (OutS.exp o1).imp fun d2 io2 S2 H2 r2 x2 o2 v2 dv2 => ⟨v, v2, rfl, ?_⟩⟩⟩
      exact OutS.nx o2 ((r2.keepSh (dv.exx x2) i).keepSh (Dv.mono (fun _ _ _ q _ => q) (fun _ _ z => Wd.clr_mu z) _ _ dv2) j) ((Ext.clr _ _ _).trans (Ext.clr _ _ _)) rfl
    | n hb =>
      rename_i g
      refine ⟨(ps_par hc hN hi hj hij hx hy (pa_cons ha.pe (pa_cons hb.pe pa_nil h2) h1) hw hs).weak fun D0 σ H ⟨w, ε, S, r, o⟩ => ?_⟩
      unfold sPar2 pcE pcQ at o
      obtain ⟨hl, o⟩ := o.ite
      simp only [bnd_bnd, ret_bnd] at o
      refine ⟨w, ε, S, r, (OutS.exp o).imp fun d io1 S1 H1 r1 x1 o1 v dv => ⟨w.at io1, ε, S1, r1, (OutS.exp o1).imp fun ds io2 S2 H2 r2 x2 o2 q0 us hq hu => ⟨v, _, rfl, ?_⟩⟩⟩
      have r3 := r2.keepSh (dv.exx x2) i
      obtain ⟨r4, x4⟩ := r3.ownS hq (Dvs.mono (fun _ _ _ q _ => q) (fun _ _ z => Wd.clr_mu z) _ _ hu) j (by rw [List.length_set]; exact hl.2)
      exact OutS.nx o2 r4 ((Ext.clr _ _ _).trans x4) rfl
  | n ha =>
    rename_i f
    cases hb with
    | v hb =>
      rename_i g
      refine ⟨(ps_par hc hN hi hj hij hx hy (pa_cons ha.pe (pa_cons hb.pe pa_nil h2) h1) hw hs).weak fun D0 σ H ⟨w, ε, S, r, o⟩ => ?_⟩
      unfold sPar2 pcE pcQ at o
      obtain ⟨hl, o⟩ := o.ite
      simp only [bnd_bnd, ret_bnd] at o
      refine ⟨w, ε, S, r, (OutS.exp o).imp fun ds io1 S1 H1 r1 x1 o1 p0 us hp hu => ?_⟩
      have zp : ¬ (w.at io1).z p0 := fun z => (r1.zh p0 z).ne hp
      have rl := r1.lay hp (.lst us)
      obtain ⟨d2, S2, e2, o2⟩ := OutS.qx o1
      refine ⟨(w.at io1).ad p0, ε, S1, rl, ?_⟩
      rw [e2]
      refine fun io2 H2 r2 x2 v2 dv2 => ⟨_, v2, rfl, ?_⟩
      have hp2 : H2 p0 = some (.lst us) := x2.kw _ _ (fun z => rl.zd p0 (.inr rfl) (.inl z)) upd_same nt_lst
      have hu2 : Dvs X.K H2 (((w.at io1).at io2).ad p0).mu us ds := (Dvs.layd hp hu (.lst us)).exx x2
      have r3 := Rp.ownZ (w := (w.at io1).at io2) r2 zp hp2 hu2 i hl.1
      have dv3 : Dv X.K H2 (((w.at io1).at io2).own i p0).mu v2 d2 := Dv.mono (fun _ _ _ q _ => q) (fun _ _ z => own_mu z) _ _ dv2
      exact OutS.nx o2 (r3.keepSh dv3 j) ((ext_par (w := w.at io1) hp x2 i).trans (Ext.clr _ _ _)) rfl
    | n hb =>
      rename_i g
      refine ⟨(ps_par hc hN hi hj hij hx hy (pa_cons ha.pe (pa_cons hb.pe pa_nil h2) h1) hw hs).weak fun D0 σ H ⟨w, ε, S, r, o⟩ => ?_⟩
      unfold sPar2 pcE pcQ at o
      obtain ⟨hl, o⟩ := o.ite
      simp only [bnd_bnd, ret_bnd] at o
      refine ⟨w, ε, S, r, (OutS.exp o).imp fun ds io1 S1 H1 r1 x1 o1 p0 us hp hu => ?_⟩
      have zp : ¬ (w.at io1).z p0 := fun z => (r1.zh p0 z).ne hp
      have rl := r1.lay hp (.lst us)
      obtain ⟨ds2, S2, e2, o2⟩ := OutS.qx o1
      refine ⟨(w.at io1).ad p0, ε, S1, rl, ?_⟩
      rw [e2]
      refine fun io2 H2 r2 x2 q0 us2 hq hv2 => ⟨_, _, rfl, ?_⟩
      have hp2 : H2 p0 = some (.lst us) := x2.kw _ _ (fun z => rl.zd p0 (.inr rfl) (.inl z)) upd_same nt_lst
      have hu2 : Dvs X.K H2 (((w.at io1).at io2).ad p0).mu us ds := (Dvs.layd hp hu (.lst us)).exx x2
      have r3 := Rp.ownZ (w := (w.at io1).at io2) r2 zp hp2 hu2 i hl.1
      have hv3 : Dvs X.K H2 (((w.at io1).at io2).own i p0).mu us2 ds2 := Dvs.mono (fun _ _ _ q _ => q) (fun _ _ z => own_mu z) _ _ hv2
      obtain ⟨r4, x4⟩ := r3.ownS hq hv3 j (by rw [List.length_set]; exact hl.2)
      exact OutS.nx o2 r4 ((ext_par (w := w.at io1) hp x2 i).trans x4) rfl
end
end
end Tn
end

section
set_option Elab.async false
set_option linter.all false
set_option maxRecDepth 100000
set_option maxHeartbeats 1000000
namespace Tn
open PySem PySem.Spec PyProof.Rows L2
variable [TB]
/-! ### what a def promises -/
def ResOk (K : PySem.W.Frag) (mg : Str → Option Value) (w : Wd) (H : Hp) (o : Option (Res Sl)) (Q : VK) (E : XK) : Prop :=
  match o with
  | some (.ok (.sh d) S') => ∀ io' H' v, Rp K (w.at io') [] S' [] H' → Exx w H io' H' → Dv K H' (w.at io').mu v d → Q v H'
  | some (.ok (.rf n) S') => ∀ io' H' a, Rp K (w.at io') [] S' [] H' → Exx w H io' H' → io'[n]? = some a → Q (.ref a) H'
  | some (.ok (.ow (.list ds)) S') => ∀ io' H' p us, Rp K (w.at io') [] S' [] H' → Exx w H io' H' → H' p = none → Dvs K H' (w.at io').mu us ds → Q (.ref p) (upd H' p (.lst us))
  | some (.ok (.lk (.tuple ds)) S') => ∀ io' H' a us, Rp K (w.at io') [] S' [] H' → Exx w H io' H' → H' a = some (.tup us) → ¬ (w.at io').mu a → Dvs K H' (w.at io').mu us ds → Q (.ref a) H'
  | some (.ex e S') => ∀ io' H', Rp K (w.at io') [] S' [] H' → Exx w H io' H' → E (exV mg e) none H'
  | _ => False
def spD (K : PySem.W.Frag) (mg : Str → Option Value) (F : Fn) : Sp := fun vs H Q E =>
  ∃ w args S, (∀ i, w.om i = none) ∧ Rp K w args S (vs.map some) H ∧ ResOk K mg w H (F args S) Q E
section
variable {K : PySem.W.Frag} {w w' : Wd} {ε ε' : Ev} {S S' : List D} {σ σ' : L2.St} {H H' : Hp} {a : Addr}
theorem Rp.more (r : Rp K w ε S σ H) (n : Nat) : Rp K w (ε ++ List.replicate n .un) S (σ ++ List.replicate n none) H where
  ls := r.ls
  nd := r.nd
  oi := r.oi
  od := r.od
  zd := r.zd
  zh := r.zh
  tt := r.tt
  st := r.st
  sl := fun i s h => by
    by_cases hi : i < ε.length
    · rw [List.getElem?_append_left hi] at h
      obtain ⟨o, h1, h2⟩ := r.sl i s h
      exact ⟨o, by rw [List.getElem?_append_left (by rw [← r.le]; exact hi)]; exact h1, h2⟩
    · have hi : ε.length ≤ i := by omega
      rw [List.getElem?_append_right hi, List.getElem?_replicate] at h
      split at h
      · rename_i hn
        cases h
        exact ⟨none, by rw [List.getElem?_append_right (by rw [← r.le]; exact hi), List.getElem?_replicate, ← r.le, if_pos hn], r.so i hi⟩
      · cases h
  so := fun i h => r.so i (by rw [List.length_append] at h; omega)
  le := by rw [List.length_append, List.length_append, r.le, List.length_replicate, List.length_replicate]
theorem tc_io (h : ∀ i, w.om i = none) : w.tc a ↔ a ∈ w.io := ⟨fun t => t.elim id fun ⟨i, e⟩ => by (rw [h i] at e; cases e), .inl⟩
/-- the def is left: its own lists, and the places that it laid, are forgotten -/
theorem Rp.leave (hom : ∀ i, w.om i = none) (r : Rp K w ε S σ H) (r' : Rp K w' ε' S' σ' H') (x : Ext w H w' H') (z : w'.zt = w.zt) (n : Nat) (hn : S.length ≤ n) :
    Rp K (w.at (w'.io.take n)) [] (S'.take n) [] H' ∧ Exx w H (w'.io.take n) H' ∧ ∀ a, (w.at (w'.io.take n)).mu a → w'.mu a := by
  have hz : w'.z = w.z := z
  have mu : ∀ a, (w.at (w'.io.take n)).mu a → w'.mu a := fun a t => by
    rcases t with (t | ⟨i, t⟩) | t
    · exact .inl (.inl (List.mem_of_mem_take t))
    · rw [hom i] at t; cases t
    · exact .inr (by rw [hz]; exact t)
  refine ⟨⟨by rw [List.length_take, List.length_take, r'.ls], r'.nd.sublist (List.take_sublist _ _), fun i j a e _ => (by rw [show (w.at (w'.io.take n)).om i = none from hom i] at e; cases e), fun i a e => (by rw [show (w.at (w'.io.take n)).om i = none from hom i] at e; cases e), fun a t u => ?_, fun a t => r'.zh a ((congrFun hz a).mpr t), ?_, fun m a d e1 e2 => ?_, fun i s h => by simp at h, fun i _ => hom i, rfl⟩, ⟨?_, fun a o n q u => x.kp a o (fun t => n ((tc_io hom).mp t)) q u, fun a t => ?_, x.dm⟩, mu⟩
  · refine r'.zd a (by rw [hz]; exact t) ?_
    rcases u with u | ⟨i, u⟩
    · exact .inl (List.mem_of_mem_take u)
    · rw [hom i] at u; cases u
  · exact r'.tt
  · have h1 : m < n := by
      rcases Nat.lt_or_ge m n with h | h
      · exact h
      · rw [List.getElem?_take_eq_none h] at e1; cases e1
    rw [List.getElem?_take_of_lt h1] at e1 e2
    exact (r'.st m a d e1 e2).mono (fun _ _ _ q _ => q) (fun a _ t => mu a t) rfl
  · obtain ⟨t, ht⟩ := x.pre
    rw [← ht, List.take_append, List.take_of_length_le (by rw [r.ls]; exact hn)]
    exact List.prefix_append _ _
  · rcases x.nw a (.inl (List.mem_of_mem_take t)) with t | t
    · exact .inl ((tc_io hom).mp t)
    · exact .inr t
/-- the same where a list of its own is handed back -/
theorem Rp.leaveO {i : Nat} (hom : ∀ i, w.om i = none) (r : Rp K w ε S σ H) (r' : Rp K w' ε' S' σ' H') (x : Ext w H w' H') (z : w'.zt = w.zt) (n : Nat) (hn : S.length ≤ n) (ha : w'.om i = some a) :
    Rp K (w.at (w'.io.take n)) [] (S'.take n) [] (Tn.del H' a) ∧ Exx w H (w'.io.take n) (Tn.del H' a) ∧ ∀ us ds, Dvs K H' w'.mu us ds → Dvs K (Tn.del H' a) (w.at (w'.io.take n)).mu us ds := by
  obtain ⟨r1, x1, mu⟩ := Rp.leave hom r r' x z n hn
  have hz : w'.z = w.z := z
  have am : w'.mu a := .inl (.inr ⟨i, ha⟩)
  have nio : a ∉ w'.io := r'.od i a ha
  have nz : ¬ w.z a := fun t => r'.zd a ((congrFun hz a).mpr t) (.inr ⟨i, ha⟩)
  have nk : ¬ Kn H a := by
    rcases x.nw a (.inr ⟨i, ha⟩) with t | t
    · exact absurd (x.pre.subset ((tc_io hom).mp t)) nio
    · exact t
  have kd : ∀ b o, ¬ w'.mu b → H' b = some o → Nt o → Tn.del H' a b = some o := fun b o q e _ => by
    rw [del_ne (fun e2 => q (by rw [e2]; exact am))]; exact e
  obtain ⟨us, hus, mus⟩ := r'.tcl (.inr ⟨i, ha⟩)
  have kk : ∀ b, Kn H b → Kn (Tn.del H' a) b := fun b q => by
    obtain ⟨o, e1, e2⟩ := x1.dm b q
    exact ⟨o, by rw [del_ne (fun e => nk (by rw [← e]; exact q))]; exact e1, e2⟩
  refine ⟨⟨r1.ls, r1.nd, r1.oi, r1.od, r1.zd, fun b t => ?_, tabs_delM r1.tt hus mus, fun m b d e1 e2 => ?_, fun i s h => by simp at h, r1.so, rfl⟩, ⟨x1.pre, fun b o q e u => ?_, x1.ni, kk⟩, fun us ds k => Dvs.mono kd (fun b _ t => mu b t) ds us k⟩
  · obtain ⟨o, e1, e2⟩ := r1.zh b t
    exact ⟨o, by rw [del_ne (fun e => nz (by rw [← e]; exact t))]; exact e1, e2⟩
  · have h1 : m < n := by
      rcases Nat.lt_or_ge m n with h | h
      · exact h
      · rw [List.getElem?_take_eq_none h] at e1; cases e1
    rw [List.getElem?_take_of_lt h1] at e1 e2
    exact (r'.st m b d e1 e2).mono kd (fun a _ t => mu a t) (del_ne (fun e => nio (by rw [← e]; exact List.mem_of_getElem? e1)))
  · rw [del_ne (fun e2 => nk ⟨o, by rw [← e2]; exact e, u⟩)]
    exact x1.kw b o q e u
end
/-! ### the rule for a def -/
theorem res_body {K : PySem.W.Frag} {mg : Str → Option Value} {w : Wd} {ε : Ev} {S : List D} {σ : L2.St} {H : Hp} {o : Option (Res SR)} {Q : VK} {E : XK} (hom : ∀ i, w.om i = none) (r : Rp K w ε S σ H) (h : ResOk K mg w H (fnEnd S o) Q E) :
    OutS K mg (fun cls d _ H => E cls d H) w H o { nx := fun _ H' => Q .non H', rt := Q } := by
  cases o with
  | none => exact h
  | some q =>
    cases q with
    | ex e S1 =>
      intro w' ε' σ' H' z r' x
      obtain ⟨r1, x1, _⟩ := Rp.leave hom r r' x z S.length (Nat.le_refl _)
      exact h _ H' r1 x1
    | ok a S1 =>
      cases a with
      | nx ε1 =>
        intro w' σ' H' z r' x
        obtain ⟨r1, x1, _⟩ := Rp.leave hom r r' x z S.length (Nat.le_refl _)
        exact h _ H' .non r1 x1 .non
      | bk ε1 => exact h.elim
      | ct ε1 => exact h.elim
      | rt v =>
        intro w' ε' σ' u H' z r' x rv
        cases v with
        | un => exact h.elim
        | lk d =>
          obtain ⟨b, us, ds, rfl, rfl, hb, nb, hd⟩ := rv
          obtain ⟨r1, x1, mu⟩ := Rp.leave hom r r' x z S.length (Nat.le_refl _)
          exact h _ H' b us r1 x1 hb (fun t => nb (mu b t)) (Dvs.mono (fun _ _ _ q _ => q) (fun b _ t => mu b t) _ _ hd)
        | sc d => exact h.elim
        | sh d =>
          obtain ⟨r1, x1, mu⟩ := Rp.leave hom r r' x z S.length (Nat.le_refl _)
          exact h _ H' u r1 x1 (Dv.mono (fun _ _ _ q _ => q) (fun b _ t => mu b t) _ _ rv)
        | rf n =>
          obtain ⟨b, rfl, hb⟩ := rv
          by_cases hn : n < S.length
          · obtain ⟨r1, x1, mu⟩ := Rp.leave hom r r' x z S.length (Nat.le_refl _)
            simp only [fnEnd, if_pos hn] at h
            exact h _ H' b r1 x1 (by rw [List.getElem?_take_of_lt hn]; exact hb)
          · have hl : S.length ≤ S1.length := by rw [← r.ls, ← r'.ls]; exact x.pre.length_le
            obtain ⟨r1, x1, mu⟩ := Rp.leave hom r r' x z S1.length hl
            rw [← r'.ls, List.take_length, r'.ls, List.take_length] at r1
            rw [← r'.ls, List.take_length] at x1
            simp only [fnEnd, if_neg hn] at h
            exact h _ H' b r1 x1 hb
        | ow d =>
          obtain ⟨i, b, us, ds, rfl, hi, rfl, hb, hd⟩ := rv
          obtain ⟨r1, x1, k⟩ := Rp.leaveO hom r r' x z S.length (Nat.le_refl _) hi
          have q := h _ _ b us r1 x1 del_same (k us ds hd)
          rw [upd_del hb] at q
          exact q
theorem fn_D {P : Program} {w : World} {K : PySem.W.Frag} {mg : Str → Option Value} {base : Heap} {k : Nat} {x : Str} {st : Stmt} {f : Addr} {fd : FuncData} {N ps : List Str} {np ns : Nat} {fb : XS} (F : Fun K x x st f fd) (S : FnScope N ps (defScope st)) (hnp : ps.length = np) (hns : N.length = ns)
    (hbody : ∀ (cdv : Value) (A : Around) (outer : List Env) (s : Shared) (H : Hp) (E : XK), Room k (A.deeper (envOfC x (defScope st) s.heap.objs.size f cdv)) →
      DSs (cxOf (L2.CX P w) P w K mg base N x (defScope st) f cdv A outer s H E) (fun cls d _ H => E cls d H) (defBody st) fb) : FnOk P w K mg base (L2.CX P w) (k + 1) f fd ps (spD K mg (mkFn np ns fb)) := by
  have len : ∀ vs H Q E, spD K mg (mkFn np ns fb) vs H Q E → vs.length = ps.length := fun vs H Q E ⟨w, args, S, h2, r, h⟩ => by
    unfold mkFn at h
    split at h
    · rename_i hc
      have := r.le
      rw [Bool.and_eq_true, decide_eq_true_eq] at hc
      rw [List.length_map, hc.1] at this
      omega
    · exact h.elim
  refine F.okX S len fun cdv A outer s H vs Q E hr h => ⟨_, (hbody cdv A outer s H E hr).pss, ?_⟩
  have hl := len _ _ _ _ h
  obtain ⟨w, args, S, h2, r, h⟩ := h
  unfold mkFn at h
  split at h
  · rename_i hc
    have r2 := r.more (ns - np)
    have e : L2.start N vs = vs.map some ++ List.replicate (ns - np) none := by
      unfold L2.start
      rw [hl, hns, hnp]
    refine ⟨w, args ++ List.replicate (ns - np) .un, S, ?_, res_body (K := K) (mg := mg) h2 r2 h⟩
    show Rp K w _ S (L2.start N vs) H
    rw [e]
    exact r2
  · exact h.elim
end Tn
end

section
set_option Elab.async false
set_option linter.all false
set_option maxRecDepth 100000
set_option maxHeartbeats 1000000
namespace Tn
open PySem PySem.Spec PyProof.Rows L2
variable [TB]
/-! ### calls of defs -/
/-- what the callee sees of the caller's state -/
def Wd.bare (w : Wd) : Wd := { io := w.io, om := fun _ => none, zt := fun a => w.z a ∨ ∃ i, w.om i = some a }
def Vls (K : PySem.W.Frag) (H : Hp) (mu : Addr → Prop) (io : List Addr) : List V → List Sl → Prop
  | [], [] => True
  | v :: vs, s :: ss => Vl K H mu io (some v) none s ∧ Vls K H mu io vs ss
  | _, _ => False
section
variable {K : PySem.W.Frag} {mg : Str → Option Value} {W : WX} {w w' : Wd} {ε ε' : Ev} {S S' : List D} {σ σ' : L2.St} {H H' : Hp} {a : Addr}
theorem bare_mu (io : List Addr) : (w.bare.at io).mu a ↔ (w.at io).mu a := by
  constructor
  · rintro ((h | ⟨i, h⟩) | h)
    · exact .inl (.inl h)
    · cases h
    · rcases h with h | h
      · exact .inr h
      · exact .inl (.inr h)
  · rintro ((h | h) | h)
    · exact .inl (.inl h)
    · exact .inr (.inr h)
    · exact .inr (.inl h)
theorem Vls.len {mu : Addr → Prop} {io : List Addr} : ∀ {vs : List V} {ss : List Sl}, Vls K H mu io vs ss → vs.length = ss.length
  | [], [], _ => rfl
  | _ :: _, _ :: _, h => by simp only [List.length_cons, Vls.len h.2]
  | [], _ :: _, h => h.elim
  | _ :: _, [], h => h.elim
theorem Vls.get {mu : Addr → Prop} {io : List Addr} : ∀ {vs : List V} {ss : List Sl} {i : Nat} {s : Sl}, Vls K H mu io vs ss → ss[i]? = some s → ∃ v, (vs.map some)[i]? = some (some v) ∧ Vl K H mu io (some v) none s
  | [], [], _, _, _, e => by simp at e
  | v :: _, _ :: _, 0, _, h, e => by
    simp at e; subst e
    exact ⟨v, rfl, h.1⟩
  | _ :: _, _ :: _, i + 1, _, h, e => by
    obtain ⟨u, h1, h2⟩ := Vls.get h.2 (by simpa using e)
    exact ⟨u, by simpa using h1, h2⟩
  | [], _ :: _, _, _, h, _ => h.elim
  | _ :: _, [], _, _, h, _ => h.elim
theorem Vls.mono {mu mu' : Addr → Prop} {io io' : List Addr} (k : ∀ a o, ¬ mu a → H a = some o → Nt o → H' a = some o) (m : ∀ a, Kn H a → mu' a → mu a) (p : io <+: io') : ∀ {vs : List V} {ss : List Sl}, Vls K H mu io vs ss → Vls K H' mu' io' vs ss
  | [], [], _ => True.intro
  | _ :: _, _ :: _, h => ⟨(h.1.pre p).mono k m (fun _ z => by cases z), Vls.mono k m p h.2⟩
  | [], _ :: _, h => h.elim
  | _ :: _, [], h => h.elim
theorem Rp.entry {vs : List V} {args : List Sl} (r : Rp K w ε S σ H) (hv : Vls K H w.mu w.io vs args) : Rp K w.bare args S (vs.map some) H where
  ls := r.ls
  nd := r.nd
  oi := fun i j a e _ => by cases e
  od := fun i a e => by cases e
  zd := fun a h t => by
    have t : a ∈ w.io := by
      rcases t with t | ⟨i, t⟩
      · exact t
      · cases t
    rcases h with h | ⟨i, h⟩
    · exact r.zd a h (.inl t)
    · exact r.od i a h t
  zh := fun a h => by
    rcases h with h | h
    · exact r.zh a h
    · exact r.tcl (.inr h)
  tt := r.tt
  st := fun n a d h1 h2 => (r.st n a d h1 h2).mono (fun _ _ _ q _ => q) (fun a _ z => (bare_mu w.io).mp z) rfl
  sl := fun i s h => by
    obtain ⟨v, h1, h2⟩ := hv.get h
    exact ⟨_, h1, h2.mono (fun _ _ _ q _ => q) (fun a _ z => (bare_mu w.io).mp z) fun _ z => by cases z⟩
  so := fun _ _ => rfl
  le := by rw [List.length_map, hv.len]
/-- behind the call -/
theorem Rp.back2 {io' : List Addr} (r : Rp K w ε S σ H) (r' : Rp K (w.bare.at io') [] S' [] H') (x : Exx w.bare H io' H') : Rp K (w.at io') ε S' σ H' where
  ls := r'.ls
  nd := r'.nd
  oi := r.oi
  od := fun i a h z => r'.zd a (.inr ⟨i, h⟩) (.inl z)
  zd := fun a h t => by
    rcases t with t | t
    · exact r'.zd a (.inl h) (.inl t)
    · exact r.zd a h (.inr t)
  zh := fun a h => r'.zh a (.inl h)
  tt := r'.tt
  st := fun n a d h1 h2 => (r'.st n a d h1 h2).mono (fun _ _ _ q _ => q) (fun a _ z => (bare_mu io').mpr z) rfl
  sl := fun i s h => by
    obtain ⟨o, h1, h2⟩ := r.sl i s h
    have x2 : Exx w H io' H' := x.re rfl
    refine ⟨o, h1, (h2.pre x.pre).mono x2.ext.keep x2.ext.mus fun a e => ?_⟩
    obtain ⟨u, q, nu⟩ := r.tch (.inr ⟨i, e⟩)
    rw [q]
    exact x.kw a u (r.od i a e) q nu
  so := r.so
  le := r.le
def okK : Sl → Bool
  | .sh _ => true
  | .rf _ => true
  | .ow (.list _) => true
  | .lk (.tuple _) => true
  | _ => false
theorem res_of {β : Type} {F : Fn} {args : List Sl} {k : Sl → M β} {Q : VK} {P : β → List Addr → List D → Hp → Prop} (r : Rp K w ε S σ H) (o : OutM K mg W w ε σ H (Tn.bnd (F args) k S) P) (hb : ∀ s S', okK s = false → k s S' = none)
    (hq : ∀ s io' S' H', Rp K (w.at io') ε S' σ H' → Exx w H io' H' → OutM K mg W (w.at io') ε σ H' (k s S') P →
      match s with
      | .sh d => ∀ v, Dv K H' (w.at io').mu v d → Q v H'
      | .rf n => ∀ a, io'[n]? = some a → Q (.ref a) H'
      | .ow (.list ds) => ∀ p us, H' p = none → Dvs K H' (w.at io').mu us ds → Q (.ref p) (upd H' p (.lst us))
      | .lk (.tuple ds) => ∀ a us, H' a = some (.tup us) → ¬ (w.at io').mu a → Dvs K H' (w.at io').mu us ds → Q (.ref a) H'
      | _ => True) : ResOk K mg w.bare H (F args S) Q (WE W σ) := by
  have o2 := OutM.bnd o
  unfold Tn.bnd at o
  cases e : F args S with
  | none => rw [e] at o; exact o.elim
  | some q =>
    rw [e] at o o2
    cases q with
    | ex x S1 => exact fun io' H' r' x' => o io' H' (r.back2 r' x') (x'.re rfl)
    | ok s S1 =>
      have kk := fun io' H' (r' : Rp K (w.bare.at io') [] S1 [] H') (x' : Exx w.bare H io' H') => hq s io' S1 H' (r.back2 r' x') (x'.re rfl) (o2 io' H' (r.back2 r' x') (x'.re rfl))
      have bad : okK s = false → False := fun h => by
        have o : OutM K mg W w ε σ H (k s S1) P := o
        rw [hb s S1 h] at o
        exact o
      cases s with
      | sh d => exact fun io' H' v r' x' dv => kk io' H' r' x' v (Dv.mono (fun _ _ _ q _ => q) (fun a _ z => (bare_mu io').mpr z) _ _ dv)
      | rf n => exact fun io' H' a r' x' ha => kk io' H' r' x' a ha
      | ow d =>
        cases d with
        | list ds => exact fun io' H' p us r' x' hp dv => kk io' H' r' x' p us hp (Dvs.mono (fun _ _ _ q _ => q) (fun a _ z => (bare_mu io').mpr z) _ _ dv)
        | _ => exact (bad rfl).elim
      | lk d =>
        cases d with
        | tuple ds => exact fun io' H' p us r' x' hp np dv => kk io' H' r' x' p us hp (fun z => np ((bare_mu io').mpr z)) (Dvs.mono (fun _ _ _ q _ => q) (fun a _ z => (bare_mu io').mpr z) _ _ dv)
        | _ => exact (bad rfl).elim
      | _ => exact (bad rfl).elim
end
/-! ### arguments -/
def tA (K : PySem.W.Frag) (mg : Str → Option Value) (W : WX) (f : XA) : TE := fun σ H Q =>
  ∃ w ε S, Rp K w ε S σ H ∧ OutM K mg W w ε σ H (f ε S) fun s io' _ H' => ∀ v, Vl K H' (w.at io').mu io' (some v) none s → Q v H'
def tAs (K : PySem.W.Frag) (mg : Str → Option Value) (W : WX) (f : XAs) : TA := fun σ H Q =>
  ∃ w ε S, Rp K w ε S σ H ∧ OutM K mg W w ε σ H (f ε S) fun ss io' _ H' => ∀ vs, Vls K H' (w.at io').mu io' vs ss → Q vs H'
structure DA (X : Cx) (W : WX) (e : Expr) (f : XA) : Prop where
  pe : PE X e (tA X.K X.mg W f)
structure DAs (X : Cx) (W : WX) (es : List Expr) (f : XAs) : Prop where
  pa : PA X es (tAs X.K X.mg W f)
section
variable {X : Cx} {W : WX} {e : Expr} {es : List Expr} {fe : XE} {fa : XA} {fs : XAs} {pos : Pos}
theorem da_d (h : DE X W e fe) : DA X W e (aD fe) := by
  refine ⟨h.pe.weak fun σ H Q ⟨w, ε, S, r, o⟩ => ?_⟩
  exact ⟨w, ε, S, r, (OutM.bnd o).imp fun d io1 S1 H1 r1 x1 o1 v dv => (o1.ret r1) v ⟨rfl, v, rfl, dv⟩⟩
theorem da_r {i : Nat} (h : PE X e (tVar i)) : DA X W e (aR i) := by
  refine ⟨h.weak fun σ H Q ⟨w, ε, S, r, o⟩ => ?_⟩
  unfold aR at o
  cases es : ε[i]? with
  | none => rw [es] at o; exact o.elim
  | some s =>
    rw [es] at o
    obtain ⟨q, h1, h2⟩ := r.sl i s es
    cases s with
    | rf n =>
      obtain ⟨_, a, rfl, ha⟩ := h2
      exact ⟨_, h1, (o.ret r) _ ⟨rfl, a, rfl, ha⟩⟩
    | _ => exact o.elim
theorem da_s {i : Nat} (h : PE X e (tVar i)) : DA X W e (aS i) := by
  refine ⟨h.weak fun σ H Q ⟨w, ε, S, r, o⟩ => ?_⟩
  unfold aS at o
  cases es : ε[i]? with
  | none => rw [es] at o; exact o.elim
  | some s =>
    rw [es] at o
    obtain ⟨q, h1, h2⟩ := r.sl i s es
    cases s with
    | sc d =>
      obtain ⟨_, h2⟩ := h2
      rcases h2 with ⟨a, xs, ds, rfl, h3, h4, h5⟩ | ⟨a, od, rfl, h3⟩
      · exact ⟨_, h1, (o.ret r) _ ⟨rfl, .inl ⟨a, xs, ds, rfl, h3, h4, h5⟩⟩⟩
      · exact ⟨_, h1, (o.ret r) _ ⟨rfl, .inr ⟨a, od, rfl, h3⟩⟩⟩
    | _ => exact o.elim
theorem das_nil : DAs X W [] as0 := ⟨pa_nil.weak fun σ H Q ⟨w, ε, S, r, o⟩ => (o.ret r) [] True.intro⟩
theorem das_cons (ha : DA X W e fa) (hr : DAs X W es fs) (hs : starEach (e :: es) X.env = (false, eval e X.env) :: starEach es X.env := by rfl) : DAs X W (e :: es) (asC fa fs) := by
  refine ⟨(pa_cons ha.pe hr.pa hs).weak fun σ H Q ⟨w, ε, S, r, o⟩ => ?_⟩
  refine ⟨w, ε, S, r, (OutM.bnd o).imp fun s io1 S1 H1 r1 x1 o1 x hx => ⟨w.at io1, ε, S1, r1, (OutM.bnd o1).imp fun ss io2 S2 H2 r2 x2 o2 xs hxs => (o2.ret r2) _ ⟨?_, hxs⟩⟩⟩
  exact (hx.pre x2.pre).mono x2.ext.keep x2.ext.mus fun _ z => by cases z
/-- x = [..] laid in the store -/
theorem ret_new {l : XL} (h : DL X W e l) : DA X W e (aNew l) := by
  refine ⟨h.pe.weak fun σ H Q ⟨w, ε, S, r, o⟩ => ?_⟩
  refine ⟨w, ε, S, r, (OutM.bnd o).imp fun ds io1 S1 H1 r1 x1 o1 p vs hp hv => ?_⟩
  have g := Grow.upd (o := .lst vs) hp
  have npi : p ∉ (w.at io1).io := fun z => r1.new hp (.inl (.inl z))
  have mu : ∀ a, Kn H1 a → (w.at (io1 ++ [p])).mu a → (w.at io1).mu a := fun a ha z => by
    rcases z with (z | z) | z
    · rcases List.mem_append.mp z with z | z
      · exact .inl (.inl z)
      · rw [List.mem_singleton.mp z] at ha; exact absurd ha (Kn.non hp)
    · exact .inl (.inr z)
    · exact .inr z
  have r2 : Rp X.K ((w.at io1).at (io1 ++ [p])) ε (S1 ++ [.list ds]) σ (upd H1 p (.lst vs)) := by
    refine ⟨?_, ?_, r1.oi, fun i a h z => ?_, fun a h z => ?_, fun a h => (r1.zh a h).grow g, r1.tt.ext g, fun n a d h1 h2 => ?_, fun i s h => ?_, r1.so, r1.le⟩
    · show (io1 ++ [p]).length = _
      rw [List.length_append, List.length_append, ← r1.ls]; rfl
    · exact List.nodup_append.mpr ⟨r1.nd, (List.nodup_cons.mpr ⟨List.not_mem_nil, List.nodup_nil⟩), fun a ha b hb => fun z => npi (by rw [← List.mem_singleton.mp hb, ← z]; exact ha)⟩
    · rcases List.mem_append.mp z with z | z
      · exact r1.od i a h z
      · rw [List.mem_singleton.mp z] at h; exact r1.tch (.inr ⟨i, h⟩) |>.ne hp
    · rcases z with z | z
      · rcases List.mem_append.mp z with z | z
        · exact r1.zd a h (.inl z)
        · rw [List.mem_singleton.mp z] at h; exact (r1.zh p h).ne hp
      · exact r1.zd a h (.inr z)
    · have hl : io1.length = S1.length := r1.ls
      by_cases hn : n < io1.length
      · rw [List.getElem?_append_left hn] at h1
        rw [List.getElem?_append_left (by rw [← hl]; exact hn)] at h2
        exact (r1.st n a d h1 h2).mono (fun a o _ q _ => g a o q) mu (g.eq (r1.st n a d h1 h2).kn.ne)
      · rw [List.getElem?_append_right (by omega)] at h1
        rw [List.getElem?_append_right (by omega)] at h2
        have e0 : n - io1.length = 0 := by
          rcases Nat.eq_zero_or_pos (n - io1.length) with z | z
          · exact z
          · rw [List.getElem?_eq_none (by show 1 ≤ _; omega)] at h1; cases h1
        rw [e0] at h1
        rw [← hl, e0] at h2
        cases h1; cases h2
        exact ⟨vs, ds, rfl, upd_same, Dvs.mono (fun a o _ q _ => g a o q) mu _ _ hv⟩
    · obtain ⟨q, h1, h2⟩ := r1.sl i s h
      exact ⟨q, h1, (h2.pre (List.prefix_append io1 [p])).mono (fun a o _ q _ => g a o q) mu fun a e => g.eq (r1.tch (.inr ⟨i, e⟩)).ne⟩
  have x2 : Exx (w.at io1) H1 (io1 ++ [p]) (upd H1 p (.lst vs)) := ⟨List.prefix_append io1 [p], fun a o _ q _ => g a o q, fun a z => by
    rcases List.mem_append.mp z with z | z
    · exact .inl z
    · rw [List.mem_singleton.mp z]; exact .inr (Kn.non hp), fun a q => g.kn q⟩
  have hl : io1.length = S1.length := r1.ls
  refine o1 _ _ r2 x2 _ ⟨rfl, p, rfl, ?_⟩
  show (io1 ++ [p])[S1.length]? = some p
  rw [← hl, List.getElem?_append_right (Nat.le_refl _), Nat.sub_self]; rfl
end
/-! ### the call -/
/-- a def of the module -/
structure FnD (P : Program) (w : World) (K : PySem.W.Frag) (mg : Str → Option Value) (base : Heap) (k : Nat) (x : Str) (ps : List Str) (F : Fn) : Prop where
  ex : ∃ f fd, mg x = some (.ref f) ∧ PySem.W.keepIn K (.ref f) = true ∧ L2.Binds K fd ps [] ∧ FnOk P w K mg base (L2.CX P w) k f fd ps (spD K mg F)
theorem FnD.up {P : Program} {w : World} {K : PySem.W.Frag} {mg : Str → Option Value} {base : Heap} {j k : Nat} {x : Str} {ps : List Str} {F : Fn} (h : FnD P w K mg base j x ps F) (hk : j ≤ k) : FnD P w K mg base k x ps F := by
  obtain ⟨f, fd, h1, h2, h3, h4⟩ := h
  exact ⟨f, fd, h1, h2, h3, h4.mono hk⟩
section
variable {X : Cx} {W : WX} {e : Expr} {es : List Expr} {fs : XAs} {F : Fn} {x : Str} {ps : List Str} {k : Nat} {p pos : Pos}
theorem call_pe {t : TA} (tk : Takes X W) (hr : Room k X.A) (hF : FnD X.prog X.w X.K X.mg X.base k x ps F) (hg : Gl X x) (ha : PA X (e :: es) t) (hdb : (x == ("__debug__" : Str)) = false)
    (hs : starEach (e :: es) X.env = (false, eval e X.env) :: starEach es X.env) (hpl : (backTo pos (starEach es X.env)).any (·.1) = false) :
    PE X (.Call (.Name x p) (e :: es) [] pos) (fun σ H Q => t σ H fun vs H1 => spD X.K X.mg F vs H1 Q (WE W σ)) := by
  obtain ⟨f, fd, h1, h2, h3, h4⟩ := hF
  exact pe_callS (E := fun σ => WE W σ) h4 hr hg h1 h2 h3 (fun σ => passAt tk σ) ha hdb hs hpl
theorem call_pe0 (tk : Takes X W) (hr : Room k X.A) (hF : FnD X.prog X.w X.K X.mg X.base k x ps F) (hg : Gl X x) (hdb : (x == ("__debug__" : Str)) = false) :
    PE X (.Call (.Name x p) [] [] pos) (fun σ H Q => tNil σ H fun vs H1 => spD X.K X.mg F vs H1 Q (WE W σ)) := by
  obtain ⟨f, fd, h1, h2, h3, h4⟩ := hF
  refine ⟨fun pins s σ H Q I h => ?_⟩
  refine wpAny_Call_Name_kw (ld_glob I hg h1 ?_ hdb)
  exact PySem.W.callWith_K0 I.kIn h2 (run_fnS (us := []) h4 hr h3 (passAt tk σ) I .nil h)
/-- the readings -/
theorem call_read {β : Type} {K : PySem.W.Frag} {mg : Str → Option Value} {ff : Sl → M β} {σ : L2.St} {H : Hp} {Q : VK} {w : Wd} {ε : Ev} {S : List D} {P : β → List Addr → List D → Hp → Prop} (r : Rp K w ε S σ H) (o : OutM K mg W w ε σ H (Tn.bnd (fs ε) (fun vs => Tn.bnd (F vs) ff) S) P)
    (hb : ∀ s S', okK s = false → ff s S' = none)
    (hq : ∀ s io' S' H', Rp K (w.at io') ε S' σ H' → OutM K mg W (w.at io') ε σ H' (ff s S') P →
      match s with
      | .sh d => ∀ v, Dv K H' (w.at io').mu v d → Q v H'
      | .rf n => ∀ a, io'[n]? = some a → Q (.ref a) H'
      | .ow (.list ds) => ∀ p us, H' p = none → Dvs K H' (w.at io').mu us ds → Q (.ref p) (upd H' p (.lst us))
      | .lk (.tuple ds) => ∀ a us, H' a = some (.tup us) → ¬ (w.at io').mu a → Dvs K H' (w.at io').mu us ds → Q (.ref a) H'
      | _ => True) :
    tAs K mg W fs σ H fun vs H1 => spD K mg F vs H1 Q (WE W σ) := by
  refine ⟨w, ε, S, r, (OutM.bnd o).imp fun args io1 S1 H1 r1 x1 o1 vs hv => ⟨(w.at io1).bare, args, S1, fun _ => rfl, r1.entry hv, res_of r1 o1 hb fun s io' S' H' r' x' o' => hq s io' S' H' r' o'⟩⟩
theorem xc_bad {s : Sl} {S' : List D} (h : okK s = false) : (match s with | .sh d => ret d | .lk (.tuple ds) => ret (.tuple ds) | _ => (stk : M D)) S' = none := by
  cases s with
  | sh d => cases h
  | lk d =>
    cases d with
    | tuple ds => cases h
    | _ => rfl
  | _ => rfl
theorem ac_bad {s : Sl} {S' : List D} (h : okK s = false) : (match s with | .sh d => ret (Sl.sh d) | .rf n => ret (Sl.rf n) | _ => (stk : M Sl)) S' = none := by
  cases s with
  | sh d => cases h
  | rf d => cases h
  | _ => rfl
theorem lc_bad {s : Sl} {S' : List D} (h : okK s = false) : (match s with | .ow (.list ds) => ret ds | _ => (stk : M (List D))) S' = none := by
  cases s with
  | ow d =>
    cases d with
    | list ds => cases h
    | _ => rfl
  | _ => rfl
theorem de_call (tk : Takes X W) (hr : Room k X.A) (hF : FnD X.prog X.w X.K X.mg X.base k x ps F) (hg : Gl X x) (ha : DAs X W (e :: es) fs) (hdb : (x == ("__debug__" : Str)) = false := by decide)
    (hs : starEach (e :: es) X.env = (false, eval e X.env) :: starEach es X.env := by rfl) (hpl : (backTo pos (starEach es X.env)).any (·.1) = false := by rfl) : DE X W (.Call (.Name x p) (e :: es) [] pos) (xCall F fs) := by
  refine ⟨(call_pe tk hr hF hg ha.pa hdb hs hpl).weak fun σ H Q ⟨w, ε, S, r, o⟩ => call_read r o (fun _ _ h => xc_bad h) fun s io' S' H' r' o' => ?_⟩
  cases s with
  | sh d => exact fun v dv => (o'.ret r') v dv
  | rf n => exact (show False from o').elim
  | ow d =>
    cases d with
    | list ds => exact (show False from o').elim
    | _ => exact True.intro
  | lk d =>
    cases d with
    | tuple ds => exact fun a us ha na dv => (o'.ret r') _ (.tup ha na dv)
    | _ => exact True.intro
  | _ => exact True.intro
theorem de_call0 (tk : Takes X W) (hr : Room k X.A) (hF : FnD X.prog X.w X.K X.mg X.base k x ps F) (hg : Gl X x) (hdb : (x == ("__debug__" : Str)) = false := by decide) : DE X W (.Call (.Name x p) [] [] pos) (xCall F as0) := by
  refine ⟨(call_pe0 tk hr hF hg hdb).weak fun σ H Q ⟨w, ε, S, r, o⟩ => ?_⟩
  unfold xCall as0 at o
  rw [ret_bnd] at o
  refine ⟨w.bare, [], S, fun _ => rfl, r.entry (vs := []) (args := []) True.intro, res_of r o (fun _ _ h => xc_bad h) fun s io' S' H' r' x' o' => ?_⟩
  cases s with
  | sh d => exact fun v dv => (o'.ret r') v dv
  | rf n => exact (show False from o').elim
  | ow d =>
    cases d with
    | list ds => exact (show False from o').elim
    | _ => exact True.intro
  | lk d =>
    cases d with
    | tuple ds => exact fun a us ha na dv => (o'.ret r') _ (.tup ha na dv)
    | _ => exact True.intro
  | _ => exact True.intro
theorem da_call (tk : Takes X W) (hr : Room k X.A) (hF : FnD X.prog X.w X.K X.mg X.base k x ps F) (hg : Gl X x) (ha : DAs X W (e :: es) fs) (hdb : (x == ("__debug__" : Str)) = false := by decide)
    (hs : starEach (e :: es) X.env = (false, eval e X.env) :: starEach es X.env := by rfl) (hpl : (backTo pos (starEach es X.env)).any (·.1) = false := by rfl) : DA X W (.Call (.Name x p) (e :: es) [] pos) (aCall F fs) := by
  refine ⟨(call_pe tk hr hF hg ha.pa hdb hs hpl).weak fun σ H Q ⟨w, ε, S, r, o⟩ => call_read r o (fun _ _ h => ac_bad h) fun s io' S' H' r' o' => ?_⟩
  cases s with
  | sh d => exact fun v dv => (o'.ret r') v ⟨rfl, v, rfl, dv⟩
  | rf n => exact fun a ha => (o'.ret r') _ ⟨rfl, a, rfl, ha⟩
  | ow d =>
    cases d with
    | list ds => exact (show False from o').elim
    | _ => exact True.intro
  | lk d =>
    cases d with
    | tuple ds => exact (show False from o').elim
    | _ => exact True.intro
  | _ => exact True.intro
theorem dl_call (tk : Takes X W) (hr : Room k X.A) (hF : FnD X.prog X.w X.K X.mg X.base k x ps F) (hg : Gl X x) (ha : DAs X W (e :: es) fs) (hdb : (x == ("__debug__" : Str)) = false := by decide)
    (hs : starEach (e :: es) X.env = (false, eval e X.env) :: starEach es X.env := by rfl) (hpl : (backTo pos (starEach es X.env)).any (·.1) = false := by rfl) : DL X W (.Call (.Name x p) (e :: es) [] pos) (lCall F fs) := by
  refine ⟨(call_pe tk hr hF hg ha.pa hdb hs hpl).weak fun σ H Q ⟨w, ε, S, r, o⟩ => call_read r o (fun _ _ h => lc_bad h) fun s io' S' H' r' o' => ?_⟩
  cases s with
  | sh d => exact (show False from o').elim
  | rf n => exact (show False from o').elim
  | ow d =>
    cases d with
    | list ds => exact fun p us hp dv => (o'.ret r') p us hp dv
    | _ => exact True.intro
  | lk d =>
    cases d with
    | tuple ds => exact (show False from o').elim
    | _ => exact True.intro
  | _ => exact True.intro
end
/-! ### statements with them -/
section
variable {X : Cx} {W : WX} {e : Expr} {fa : XA} {i : Nat} {x : Str} {pos : Pos}
theorem ds_asg {pos' : Pos} (hN : X.N.Nodup) (hi : X.N[i]? = some x) (hx : Loc X.env.scope x) (he : DA X W e fa) (hs : swapsWith e (some (.Name x pos')) pos.line X.env = pure false := by rfl) (hf : X.fn x = true ∨ X.env.scope.names.lookup x = some .local := by first | exact .inl rfl | exact .inr rfl | assumption) : DS X W (.Assign [.Name x pos'] e pos) (sAsg i fa) := by
  refine ⟨(ps_set hN hi hx he.pe hs hf).weak fun D0 σ H ⟨w, ε, S, r, o⟩ => ?_⟩
  refine ⟨w, ε, S, r, (OutS.exp o).imp fun s io1 S1 H1 r1 x1 o1 v hv => ?_⟩
  refine OutS.nx o1 (r1.set i (some v) s hv fun d => ⟨fun e => ?_, fun e => ?_⟩) (Ext.clr _ _ _) rfl
  · subst e; obtain ⟨a, h, _⟩ := hv; cases h
  · subst e; obtain ⟨a, h, _⟩ := hv; cases h
theorem ds_retA (he : DA X W e fa) : DS X W (.Return (some e) pos) (sRetA fa) := by
  refine ⟨(ps_ret he.pe).weak fun D0 σ H ⟨w, ε, S, r, o⟩ => ?_⟩
  refine ⟨w, ε, S, r, (OutS.exp o).imp fun s io1 S1 H1 r1 x1 o1 v hv => ?_⟩
  cases s with
  | sh d => obtain ⟨_, u, e1, dv⟩ := hv; cases e1; exact o1 _ _ _ v H1 rfl r1 (Ext.refl _ _) dv
  | rf n => obtain ⟨_, a, e1, ha⟩ := hv; cases e1; exact o1 _ _ _ _ H1 rfl r1 (Ext.refl _ _) ⟨a, rfl, ha⟩
  | _ => exact (show False from o1).elim
theorem ds_retO (he : PE X e (tVar i)) : DS X W (.Return (some e) pos) (sRetO i) := by
  refine ⟨(ps_ret he).weak fun D0 σ H ⟨w, ε, S, r, o⟩ => ?_⟩
  unfold sRetO at o
  cases es : ε[i]? with
  | none => rw [es] at o; exact o.elim
  | some s =>
    rw [es] at o
    obtain ⟨q, h1, h2⟩ := r.sl i s es
    cases s with
    | ow d =>
      obtain ⟨a, h3, rfl, us, ds, rfl, h5, h6⟩ := h2
      exact ⟨_, h1, o _ _ _ _ H rfl r (Ext.refl _ _) ⟨i, a, us, ds, rfl, h3, rfl, h5, h6⟩⟩
    | _ => exact o.elim
end
end Tn
end

section
set_option Elab.async false
set_option linter.all false
set_option maxRecDepth 100000
set_option maxHeartbeats 1000000
namespace Tn
open PySem PySem.Spec PyProof.Rows L2
variable [TB]
/-! ### the errors -/
abbrev veB : List Value := [.type "ValueError", .type "Exception", .type "BaseException", .type "object"]
/-- what the written part says of the three classes -/
structure ExM (K : PySem.W.Frag) (mg : Str → Option Value) (C : Ex → Addr) (xs : List Ex) : Prop where
  g : ∀ e ∈ xs, mg (exN e) = some (.ref (C e))
  q : ∀ e ∈ xs, PySem.W.excIn K (C e) veB "ValueError.__new__" = true
  k : ∀ e ∈ xs, PySem.W.keepIn K (.ref (C e)) = true
  s : ∀ e ∈ xs, PySem.W.subIn K (.ref (C e)) (.type "BaseException") = some true
  t : ∀ e ∈ xs, PySem.W.typeIn K (.ref (C e)) = some (.type "type")
  m : ∀ e ∈ xs, ∀ e' ∈ xs, PySem.W.exmOne K (.ref (C e)) (.ref (C e')) = some (decide (e = e'))
theorem ExM.v {K : PySem.W.Frag} {mg : Str → Option Value} {C : Ex → Addr} {xs : List Ex} (M : ExM K mg C xs) (e : Ex) (he : e ∈ xs) : exV mg e = .ref (C e) := by unfold exV; rw [M.g e he]; rfl
/-- the handlers' classes are there -/
abbrev Hin (hs : List (Ex × D)) (xs : List Ex) : Prop := (hs.all fun p => decide (p.1 ∈ xs)) = true
theorem hin_look {xs : List Ex} {e : Ex} {d : D} : ∀ {hs : List (Ex × D)}, Hin hs xs → hs.lookup e = some d → e ∈ xs
  | [], _, h => by cases h
  | (e1, d1) :: hs, hh, h => by
    rw [List.lookup_cons] at h
    have hh : (decide (e1 ∈ xs) && hs.all fun p => decide (p.1 ∈ xs)) = true := hh
    rw [Bool.and_eq_true, decide_eq_true_eq] at hh
    split at h
    · rename_i z
      have := eq_of_beq z
      subst this; exact hh.1
    · exact hin_look hh.2 h
section
variable {X : Cx} {W : WX} {C : Ex → Addr} {xs : List Ex} {pos : Pos}
theorem pmk_own0 {x : Str} {p : Pos} {e : Ex} (M : ExM X.K X.mg C xs) (hx : x = exN e) (he : e ∈ xs) (hg : Gl X x) (hdb : (x == ("__debug__" : Str)) = false := by decide) : PMk X (.Call (.Name x p) [] [] pos) (fun _ H Q => Q (.ref (C e)) none H) := by
  subst hx
  intro pins s σ H Q I h
  refine wpAny_Call_Name_kw (ld_glob I hg (M.g e he) ?_ hdb)
  refine PySem.W.callWith_K0 I.kIn (M.k e he) ?_
  show wpAny _ _ (call (.ref (C e)) []) _ _ _
  obtain ⟨bm, N, nm, qn, bs, hdct, sn, sub, ab, col, dd, k0, k1, k2, k3, k5, mN, hC, hN, hni, T⟩ := exc_obj I.kIn (M.q e he)
  refine wpAny_call_exc_subT PySem.F.excBase_ValueError T hC hN hni (fun h' e' hm => ?_) (by show 0 ≤ sizeLine; exact Nat.zero_le _)
  exact mk_of I hm (raises_own (M.s e he) (M.t e he)) h (I.hok.gone hm.new)
theorem ds_raise {x : Str} {p p2 : Pos} {e : Ex} (hc : X.calm = true) (tk : Takes X W) (M : ExM X.K X.mg C xs) (hx : x = exN e) (hg : Gl X x) (hdb : (x == ("__debug__" : Str)) = false := by decide) (he : e ∈ xs := by decide) : DS X W (.Raise (some (.Call (.Name x p) [] [] p2)) none pos) (sRaise e) := by
  refine ⟨(ps_raise hc tk (pmk_own0 (p := p) (pos := p2) M hx he hg hdb)).weak fun D0 σ H ⟨w, ε, S, r, o⟩ => ?_⟩
  have := o w ε σ H rfl r (Ext.refl w H)
  rw [M.v _ he] at this
  exact this
end
/-! ### what a helper makes of a call's outcome -/
def cV : D → V
  | .str s => .str s
  | .bool b => .bl b
  | .int i => .int i
  | _ => .non
inductive KC : Expr → D → Prop
  | str {s : Str} {j : Nat} {p : Pos} (h : PyData.strOk s = true) : KC (.Constant (.str s) j p) (.str s)
  | bl {b : Bool} {j : Nat} {p : Pos} : KC (.Constant (.bool b) j p) (.bool b)
  | non {j : Nat} {p : Pos} : KC (.Constant .none j p) .none
theorem KC.pe {X : Cx} {e : Expr} {d : D} (h : KC e d) : PE X e (tC (cV d)) := by
  cases h with
  | str h => exact pe_str
  | bl => exact pe_bl
  | non => exact pe_non
theorem KC.dv {K : PySem.W.Frag} {H : Hp} {mu : Addr → Prop} {e : Expr} {d : D} (h : KC e d) : Dv K H mu (cV d) d := by
  cases h with
  | str h => exact .str _ h
  | bl => exact .bl _
  | non => exact .non
/-- except X: return c, one after the other -/
inductive HL (sc : Scope) : List ExceptHandler → List (Ex × D) → Prop
  | nil : HL sc [] []
  | cons {x : Str} {e : Ex} {ce : Expr} {d : D} {np p pos' : Pos} {hds : List ExceptHandler} {hs : List (Ex × D)} (hx : x = exN e) (hg : sc.names.lookup x = some .globalImplicit) (hdb : (x == ("__debug__" : Str)) = false) (hc : KC ce d) (r : HL sc hds hs) :
    HL sc (.ExceptHandler (some (.Name x np)) none [.Return (some ce) p] pos' :: hds) ((e, d) :: hs)
theorem HL.dv {K : PySem.W.Frag} {H : Hp} {mu : Addr → Prop} {sc : Scope} {hds : List ExceptHandler} {hs : List (Ex × D)} (h : HL sc hds hs) {e : Ex} {d : D} (hl : hs.lookup e = some d) : Dv K H mu (cV d) d := by
  induction h with
  | nil => cases hl
  | @cons x e1 ce d1 np p pos' hds2 hs2 hx hg hdb hc r ih =>
    rw [List.lookup_cons] at hl
    split at hl
    · cases hl; exact hc.dv
    · exact ih hl
def hlT (C : Ex → Addr) (hs : List (Ex × D)) : List (Value × (Addr → Value → Option Addr → TS)) := hs.map fun p => (.ref (C p.1), fun _ _ _ => tRet (tC (cV p.2)))
theorem HL.ok {X : Cx} {C : Ex → Addr} {xs : List Ex} (M : ExM X.K X.mg C xs) {hds : List ExceptHandler} {hs : List (Ex × D)} (h : HL X.env.scope hds hs) (hi : Hin hs xs) : HdsOk X hds (hlT C hs) := by
  induction h with
  | nil => exact .nil
  | @cons x e1 ce d1 np p pos' hds2 hs2 hx hg hdb hc r ih =>
    subst hx
    have hi : (decide (e1 ∈ xs) && hs2.all fun p => decide (p.1 ∈ xs)) = true := hi
    rw [Bool.and_eq_true, decide_eq_true_eq] at hi
    exact .cons ⟨hg, hdb, .inl (M.g e1 hi.1)⟩ (fun a oe cls d pn _ _ => pss_one (ps_ret hc.pe)) (ih hi.2)
theorem wmany_of {K : PySem.W.Frag} {mg : Str → Option Value} {C : Ex → Addr} {xs : List Ex} (M : ExM K mg C xs) {Wout : WX} {D0 : Ends} {e : Ex} {d : D} {dd : Option Addr} {σ : L2.St} {H : Hp} (q : D0.rt (cV d) H) (he : e ∈ xs) : ∀ {hs : List (Ex × D)}, Hin hs xs → hs.lookup e = some d → wMany K Wout D0 (hlT C hs) (.ref (C e)) dd σ H
  | [], _, h => by cases h
  | (e1, d1) :: hs, hi, h => by
    have hi : (decide (e1 ∈ xs) && hs.all fun p => decide (p.1 ∈ xs)) = true := hi
    rw [Bool.and_eq_true, decide_eq_true_eq] at hi
    refine ⟨decide (e = e1), M.m e he e1 hi.1, fun hb a _ => ?_, fun hb => ?_⟩
    · have hb : e = e1 := of_decide_eq_true hb
      subst hb
      rw [List.lookup_cons, beq_self_eq_true] at h
      cases h
      exact q
    · have hb : ¬ e = e1 := of_decide_eq_false hb
      have hb2 : (e == e1) = false := by
        cases z : e == e1 with
        | false => rfl
        | true => exact absurd (eq_of_beq z) hb
      rw [List.lookup_cons, hb2] at h
      exact wmany_of M q he hi.2 h
def TTh (C : Ex → Addr) (hs : List (Ex × D)) (ok : D) : (XK → Hp → VK → Prop) → Hp → VK → Prop := fun tl H Q =>
  tl (fun cls _ H' => ∃ e d, cls = .ref (C e) ∧ hs.lookup e = some d ∧ Q (cV d) H') H fun _ H' => Q (cV ok) H'
section
variable {X : Cx} {C : Ex → Addr} {xs : List Ex} {Ng : List Str} {x a q : Str} {sg : Scope} {g : Addr} {cdg : Value} {hds : List ExceptHandler} {h0 : ExceptHandler} {hs : List (Ex × D)} {ok : D} {okE : Expr} {p1 p2 p3 p8 p9 : Pos}
theorem gives_A (M : ExM X.K X.mg C xs) (hh : HL sg (h0 :: hds) hs) (hi : Hin hs xs) (hk : KC okE ok) (hst : ∀ f : Addr, (L2.start Ng [V.ref f])[0]? = some (some (V.ref f))) :
    LamX.GivesTo X Ng x sg g cdg [.Try [.Expr (.Call (.Name a p1) [] [] p2) p3] (h0 :: hds) [] [] p8, .Return (some okE) p9] a q (TTh C hs ok) := by
  intro f c' s H Q tl act hc h
  have hH : HdsOk (cxOf C8.CX0 X.prog X.w X.K X.mg X.base Ng x sg g cdg X.A X.stack s H C8.E0).nox (h0 :: hds) (hlT C hs) := HL.ok (X := (cxOf C8.CX0 X.prog X.w X.K X.mg X.base Ng x sg g cdg X.A X.stack s H C8.E0).nox) M hh hi
  refine ⟨_, pss_cons (ps_try_many (X := (cxOf C8.CX0 X.prog X.w X.K X.mg X.base Ng x sg g cdg X.A X.stack s H C8.E0).nox)
      (tb := fun W D0 σ H => ∃ Ech : XK, (∀ cls d σ' H', Ech cls d H' → W cls d σ' H') ∧ σ[0]? = some (some (.ref f)) ∧ H c' = some (LamX.CodeO c' q) ∧ tl Ech H fun _ H' => D0.nx σ H')
      rfl rfl LamX.takes0 (fun W pn xe tk _ => ?_) hH) (pss_one (ps_ret hk.pe)), ?_⟩
  · refine ⟨fun pins s' σ H' D0 I h' => ?_⟩
    obtain ⟨Ech, hW, h1, h2, h3⟩ := h'
    exact (pss_one (ps_expr (pos := p3) (act W pn xe Ech p1 p2 tk hW))).run pins s' σ H' D0 I ⟨h1, h2, h3⟩
  · exact ⟨fun cls _ H' => ∃ e d, cls = .ref (C e) ∧ hs.lookup e = some d ∧ Q (cV d) H', fun cls d σ' H' ⟨e, d', e1, e2, e3⟩ => by subst e1; exact wmany_of M e3 (hin_look hi e2) hi e2, hst f, hc, h⟩
theorem gives_B (M : ExM X.K X.mg C xs) (hh : HL sg (h0 :: hds) hs) (hi : Hin hs xs) (hk : KC okE ok) (hst : ∀ f : Addr, (L2.start Ng [V.ref f])[0]? = some (some (V.ref f))) :
    LamX.GivesTo X Ng x sg g cdg [.Try [.Expr (.Call (.Name a p1) [] [] p2) p3, .Return (some okE) p9] (h0 :: hds) [] [] p8] a q (TTh C hs ok) := by
  intro f c' s H Q tl act hc h
  have hH : HdsOk (cxOf C8.CX0 X.prog X.w X.K X.mg X.base Ng x sg g cdg X.A X.stack s H C8.E0).nox (h0 :: hds) (hlT C hs) := HL.ok (X := (cxOf C8.CX0 X.prog X.w X.K X.mg X.base Ng x sg g cdg X.A X.stack s H C8.E0).nox) M hh hi
  refine ⟨_, pss_one (ps_try_many (X := (cxOf C8.CX0 X.prog X.w X.K X.mg X.base Ng x sg g cdg X.A X.stack s H C8.E0).nox)
      (tb := fun W D0 σ H => ∃ Ech : XK, (∀ cls d σ' H', Ech cls d H' → W cls d σ' H') ∧ σ[0]? = some (some (.ref f)) ∧ H c' = some (LamX.CodeO c' q) ∧ tl Ech H fun _ H' => D0.rt (cV ok) H')
      rfl rfl LamX.takes0 (fun W pn xe tk _ => ?_) hH), ?_⟩
  · refine ⟨fun pins s' σ H' D0 I h' => ?_⟩
    obtain ⟨Ech, hW, h1, h2, h3⟩ := h'
    exact (pss_cons (ps_expr (pos := p3) (act W pn xe Ech p1 p2 tk hW)) (pss_one (ps_ret (pos := p9) hk.pe))).run pins s' σ H' D0 I ⟨h1, h2, h3⟩
  · exact ⟨fun cls _ H' => ∃ e d, cls = .ref (C e) ∧ hs.lookup e = some d ∧ Q (cV d) H', fun cls d σ' H' ⟨e, d', e1, e2, e3⟩ => by subst e1; exact wmany_of M e3 (hin_look hi e2) hi e2, hst f, hc, h⟩
end
section
variable {K : PySem.W.Frag} {mg : Str → Option Value} {W : WX} {w : Wd} {ε : Ev} {S : List D} {σ : L2.St} {H H1 : Hp}
theorem extN_exx (x : LamX.ExtN H H1) : Exx w H w.io H1 := ⟨List.prefix_rfl, fun a o _ h n => x a o h n, fun _ h => .inl h, fun a ⟨o, h, n⟩ => ⟨o, x a o h n, n⟩⟩
theorem Rp.extN (r : Rp K w ε S σ H) (x : LamX.ExtN H H1) (t : LamX.Tabs TB.tb H1) : Rp K w ε S σ H1 where
  ls := r.ls
  nd := r.nd
  oi := r.oi
  od := r.od
  zd := r.zd
  zh := fun a h => by
    obtain ⟨o, e, n⟩ := r.zh a h
    exact ⟨o, x a o e n.nt, n⟩
  tt := t
  st := fun n a d h1 h2 => by
    have ob := r.st n a d h1 h2
    obtain ⟨xs, e⟩ := ob.li
    exact ob.mono (fun a o _ h n => x a o h n) (fun _ _ h => h) (by rw [e]; exact x a _ e nt_lst)
  sl := fun i s h => by
    obtain ⟨o, h1, h2⟩ := r.sl i s h
    refine ⟨o, h1, h2.mono (fun a o _ h n => x a o h n) (fun _ _ h => h) fun a e => ?_⟩
    obtain ⟨u, e, mo⟩ := r.tcl (.inr ⟨i, e⟩)
    rw [e]; exact x a _ e mo.nt
  so := r.so
  le := r.le
/-- the reading of a lambda handed to a helper -/
theorem lam_read {C : Ex → Addr} {xs : List Ex} (M : ExM K mg C xs) {fe : XE} {hs : List (Ex × D)} (hi : Hin hs xs) {ok : D} (hok : ∀ H mu, Dv K H mu (cV ok) ok) (hhs : ∀ e d, hs.lookup e = some d → ∀ H mu, Dv K H mu (cV d) d) : ∀ σ H Q, tE K mg W (xLam (refusal ok hs) fe) σ H Q →
    LamX.tLam TB.tb (TTh C hs ok) (fun E => tE K mg (fun cls d _ H => E cls d H) fe) σ H Q := by
  intro σ H Q ⟨w, ε, S, r, o⟩
  refine ⟨r.tt, fun H1 x t => ⟨w, ε, S, r.extN x t, ?_⟩⟩
  unfold xLam refusal at o
  cases e : fe ε S with
  | none => rw [e] at o; exact o.elim
  | some q =>
    rw [e] at o
    cases q with
    | ok d S1 => exact fun io' H' r' x' v _ => o io' H' r' ((extN_exx x).trans x') _ (hok H' _)
    | ex e1 S1 =>
      dsimp only at o
      cases el : hs.lookup e1 with
      | none => rw [el] at o; exact o.elim
      | some d =>
        rw [el] at o
        exact fun io' H' r' x' => ⟨e1, d, M.v e1 (hin_look hi el), el, o io' H' r' ((extN_exx x).trans x') _ (hhs e1 d el H' _)⟩
end
/-- a helper that calls what it gets -/
structure HlpD (K : PySem.W.Frag) (mg : Str → Option Value) (C : Ex → Addr) (x a : Str) (hs : List (Ex × D)) (ok : D) : Prop where
  ex : ∃ (g : Addr) (pg : Arguments) (bg : List Stmt) (sg : Scope) (dV kV doc pm cdv ct oc : Value) (an od : Option Addr) (osl : Array (Option Value)) (Ng : List Str),
    mg x = some (.ref g) ∧ PySem.W.keepIn K (.ref g) = true ∧ K.lookup g = some ⟨oc, od, .func (PySem.W.fnOf x x pg bg sg dV kV doc pm an cdv ct), osl⟩ ∧ PySem.W.codeIn K cdv x = true ∧
    L2.Binds K (PySem.W.fnOf x x pg bg sg dV kV doc pm an cdv ct) [a] [] ∧ FnScope Ng [a] sg ∧ Ng[0]? = some a ∧ Vis sg a ∧
    ∀ (X : Cx) (q : Str), X.K = K → X.mg = mg → LamX.GivesTo X Ng x sg g cdv bg a q (TTh C hs ok)
  dok : ∀ H mu, Dv K H mu (cV ok) ok
  dhs : ∀ e d, hs.lookup e = some d → ∀ H mu, Dv K H mu (cV d) d
/-- the maker's own code object and table -/
def LamAt (X : Cx) : Prop := ∃ c P, X.env.code = .ref c ∧ LamX.TabB X.base X.mg c P ∧ (P, X.env.qual ++ "<lambda>") ∈ TB.tb ∧ ∀ p ∈ TB.tb, p.1 = P → p.2 = X.env.qual ++ "<lambda>"
theorem de_lam {X : Cx} {W : WX} {C : Ex → Addr} {xs : List Ex} {k : Nat} {x a : Str} {hs : List (Ex × D)} {ok : D} {params : Arguments} {body : Expr} {scope : Scope} {fe : XE} {p lpos pos : Pos} (M : ExM X.K X.mg C xs) (hH : HlpD X.K X.mg C x a hs ok) (hg : Gl X x) (hL : LamAt X) (hr : Room (k + 2) X.A)
    (L : LamX.LamS X.env.scope scope) (hdef : defaultsOf params X.env = ([], []))
    (hbind : ∀ (q : Str) (cl : List (Str × Addr)) (pm cv ctv : Value), bindArgs (PySem.W.kla_fn "<lambda>" q params body scope cl pm cv ctv) ⟨[], []⟩ = pure [])
    (hbody : ∀ (A : Around) (outer : List Env) (s : Shared) (H : Hp) (E : XK) (f c' : Addr), Room k (A.deeper (LamX.lamEnv X scope s.heap.objs.size f c')) → DE (LamX.lamCx X A outer s H E scope f c') (fun cls d _ H => E cls d H) body fe)
    (hdb : (x == ("__debug__" : Str)) = false := by decide) (hd : (a == ("__debug__" : Str)) = false := by decide) (hcd : (a == ("__classdict__" : Str)) = false := by decide) (hi : Hin hs xs := by rfl) :
    DE X W (.Call (.Name x p) [.Lambda params body scope lpos] [] pos) (xLam (refusal ok hs) fe) := by
  obtain ⟨g, pg, bg, sg, dV, kV, doc, pm, cdv, ct, oc, an, od, osl, Ng, h1, h2, h3, h4, h5, h6, h7, h8, h9⟩ := hH.ex
  obtain ⟨c, P, hc, hT, hm, hu⟩ := hL
  exact ⟨(LamX.pe_lamcall (T := TB.tb) (TT := TTh C hs ok) (t := fun E => tE X.K X.mg (fun cls d _ H => E cls d H) fe) hg h1 h2 h3 h4 h5 h6 h7 h8 (h9 X _ rfl rfl) hT hc hm hu hr L hdef hbind (fun A outer s H E f c' hr2 => (hbody A outer s H E f c' hr2).pe) hdb hd hcd).weak (lam_read M hi hH.dok hH.dhs)⟩
/-- the helpers' own defs -/
theorem hlp_A {K : PySem.W.Frag} {mg : Str → Option Value} {C : Ex → Addr} {x a : Str} {st : Stmt} {g : Addr} {fd : FuncData} {Ng : List Str} {hs : List (Ex × D)} {ok : D} {h0 : ExceptHandler} {hds : List ExceptHandler} {okE : Expr} {p1 p2 p3 p8 p9 : Pos} {xs : List Ex} (M : ExM K mg C xs) (F : Fun K x x st g fd) (hm : mg x = some (.ref g)) (hb : L2.Binds K fd [a] []) (S : FnScope Ng [a] (defScope st))
    (hN : Ng[0]? = some a) (hv : Vis (defScope st) a) (hbd : defBody st = [.Try [.Expr (.Call (.Name a p1) [] [] p2) p3] (h0 :: hds) [] [] p8, .Return (some okE) p9]) (hh : HL (defScope st) (h0 :: hds) hs) (hk : KC okE ok) (hst : ∀ f : Addr, (L2.start Ng [V.ref f])[0]? = some (some (V.ref f))) (hi : Hin hs xs := by rfl) : HlpD K mg C x a hs ok := by
  obtain ⟨oc, od, kV, doc, pm, an, cdv, ct, osl, rfl, lk, hcd⟩ := F.ex
  refine ⟨⟨g, defArgs st, defBody st, defScope st, .none, kV, doc, pm, cdv, ct, oc, an, od, osl, Ng, hm, F.kp, lk, hcd, hb, S, hN, hv, fun X q hK hmg => ?_⟩, fun H mu => hk.dv, fun e d hl H mu => hh.dv hl⟩
  rw [hbd]
  exact gives_A (by rw [hK, hmg]; exact M) hh hi hk hst
theorem hlp_B {K : PySem.W.Frag} {mg : Str → Option Value} {C : Ex → Addr} {x a : Str} {st : Stmt} {g : Addr} {fd : FuncData} {Ng : List Str} {hs : List (Ex × D)} {ok : D} {h0 : ExceptHandler} {hds : List ExceptHandler} {okE : Expr} {p1 p2 p3 p8 p9 : Pos} {xs : List Ex} (M : ExM K mg C xs) (F : Fun K x x st g fd) (hm : mg x = some (.ref g)) (hb : L2.Binds K fd [a] []) (S : FnScope Ng [a] (defScope st))
    (hN : Ng[0]? = some a) (hv : Vis (defScope st) a) (hbd : defBody st = [.Try [.Expr (.Call (.Name a p1) [] [] p2) p3, .Return (some okE) p9] (h0 :: hds) [] [] p8]) (hh : HL (defScope st) (h0 :: hds) hs) (hk : KC okE ok) (hst : ∀ f : Addr, (L2.start Ng [V.ref f])[0]? = some (some (V.ref f))) (hi : Hin hs xs := by rfl) : HlpD K mg C x a hs ok := by
  obtain ⟨oc, od, kV, doc, pm, an, cdv, ct, osl, rfl, lk, hcd⟩ := F.ex
  refine ⟨⟨g, defArgs st, defBody st, defScope st, .none, kV, doc, pm, cdv, ct, oc, an, od, osl, Ng, hm, F.kp, lk, hcd, hb, S, hN, hv, fun X q hK hmg => ?_⟩, fun H mu => hk.dv, fun e d hl H mu => hh.dv hl⟩
  rw [hbd]
  exact gives_B (by rw [hK, hmg]; exact M) hh hi hk hst
/-! ### the law's promise at its script -/
theorem Dvs.ints {K : PySem.W.Frag} {H : Hp} {mu : Addr → Prop} : ∀ ns : List Int, Dvs K H mu (ns.map V.int) (ns.map .int)
  | [] => .nil
  | n :: ns => .cons (.int n) (Dvs.ints ns)
theorem law_sp {K : PySem.W.Frag} {mg : Str → Option Value} {H : Hp} {a : Addr} {ns : List Int} {F : Fn} (hT : LamX.Tabs TB.tb H) (hS : SqL K H a (ns.map V.int)) (hF : ∃ S', F [.sc (.list (ns.map .int))] [] = some (.ok (.sh (.bool true)) S')) :
    spD K mg F [.ref a] H (fun v _ => v = .bl true) fun _ _ _ => False := by
  obtain ⟨S', hF⟩ := hF
  refine ⟨⟨[], fun _ => none, fun _ => False⟩, [.sc (.list (ns.map .int))], [], fun _ => rfl, ⟨rfl, List.nodup_nil, fun i j a e => (by cases e), fun i a e => (by cases e), fun a (h : False) => h.elim, fun a (h : False) => h.elim, hT, fun n a d h => (by simp at h), fun i s h => ?_, fun _ _ => rfl, rfl⟩, ?_⟩
  · have nm : ¬ Wd.mu ⟨[], fun _ => none, fun _ => False⟩ a := fun z => by
      rcases z with (z | ⟨i, z⟩) | z
      · cases z
      · cases z
      · exact z
    cases i with
    | zero =>
      simp at h
      subst h
      refine ⟨some (.ref a), rfl, rfl, .inl ⟨a, _, _, rfl, ?_, rfl, Dvs.ints ns⟩⟩
      rcases hS with h | h
      · exact .inl ⟨nm, h⟩
      · exact .inr (.inr h)
    | succ i => simp at h
  · rw [hF]
    intro io' H' v r x dv
    cases dv
    rfl
end Tn
end

section
set_option Elab.async false
set_option linter.all false
set_option maxRecDepth 100000
set_option maxHeartbeats 1000000
namespace Tn
open PySem PySem.Spec PyProof.Rows L2
/-! ### comparisons tell True or False -/
theorem hb_eq : ∀ x y d, opEq x y = some d → ∃ b, d = .bool b := fun x y d h => by
  unfold opEq at h
  split at h
  · cases h; exact ⟨_, rfl⟩
  · cases h
theorem hb_ne : ∀ x y d, opNe x y = some d → ∃ b, d = .bool b := fun x y d h => by
  unfold opNe at h
  split at h
  · cases h; exact ⟨_, rfl⟩
  · cases h
theorem hb_lt : ∀ x y d, opLt x y = some d → ∃ b, d = .bool b := fun x y d h => by
  unfold opLt at h
  split at h
  · cases h; exact ⟨_, rfl⟩
  · split at h
    · cases h; exact ⟨_, rfl⟩
    · cases h
theorem hb_le : ∀ x y d, opLe x y = some d → ∃ b, d = .bool b := fun x y d h => by
  unfold opLe at h
  split at h
  · cases h; exact ⟨_, rfl⟩
  · split at h
    · cases h; exact ⟨_, rfl⟩
    · cases h
theorem hb_gt : ∀ x y d, opGt x y = some d → ∃ b, d = .bool b := fun x y d h => by
  unfold opGt at h
  split at h
  · cases h; exact ⟨_, rfl⟩
  · split at h
    · cases h; exact ⟨_, rfl⟩
    · cases h
theorem hb_ge : ∀ x y d, opGe x y = some d → ∃ b, d = .bool b := fun x y d h => by
  unfold opGe at h
  split at h
  · cases h; exact ⟨_, rfl⟩
  · split at h
    · cases h; exact ⟨_, rfl⟩
    · cases h
theorem hb_in : ∀ x y d, opIn x y = some d → ∃ b, d = .bool b := fun x y d h => by
  unfold opIn at h
  split at h
  · split at h
    · cases h; exact ⟨_, rfl⟩
    · cases h
  · cases h
theorem hb_notIn : ∀ x y d, opNotIn x y = some d → ∃ b, d = .bool b := fun x y d h => by
  unfold opNotIn at h
  split at h
  · split at h
    · cases h; exact ⟨_, rfl⟩
    · cases h
  · cases h
theorem hb_isN : ∀ x d, opIsN x = some d → ∃ b, d = .bool b := fun x d h => by cases h; exact ⟨_, rfl⟩
theorem hb_notN : ∀ x d, opNotN x = some d → ∃ b, d = .bool b := fun x d h => by cases h; exact ⟨_, rfl⟩
/-! ### the module's names -/
/-- a name that holds a value which nobody changes -/
structure CoD (K : PySem.W.Frag) (mg : Str → Option Value) (x : Str) (d : D) : Prop where
  ex : ∃ u v, mg x = some u ∧ RelV v u ∧ ∀ H mu, Dv K H mu v d
variable [TB]
theorem de_c {X : Cx} {W : WX} {x : Str} {d : D} {pos : Pos} (h : CoD X.K X.mg x d) (hg : Gl X x) (hdb : (x == ("__debug__" : Str)) = false := by decide) : DE X W (.Name x pos) (xK d) := by
  obtain ⟨u, v, h1, h2, h3⟩ := h.ex
  exact de_g hg h1 h2 h3 hdb
theorem fnd_of {P : Program} {w : World} {K : PySem.W.Frag} {mg : Str → Option Value} {base : Heap} {k : Nat} {x : Str} {ps : List Str} {F : Fn} {st : Stmt} {f : Addr} {fd : FuncData} (h : Fun K x x st f fd) (hm : mg x = some (.ref f)) (hb : L2.Binds K fd ps []) (hF : FnOk P w K mg base (L2.CX P w) k f fd ps (spD K mg F)) : FnD P w K mg base k x ps F :=
  ⟨⟨f, fd, hm, h.kp, hb, hF⟩⟩
/-! ### tuples and lists of a range -/
structure DRg (X : Cx) (W : WX) (e : Expr) (f : XL) : Prop where
  pr : PRg X e fun σ H Q => ∃ w ε S, Rp X.K w ε S σ H ∧ OutM X.K X.mg W w ε σ H (f ε S) fun ds _ _ H' => ∀ i j, RgOk i j → ds = rngL i (j - i).toNat → Q i j H'
def xTupI (f : XL) : XE := fun ε => bnd (f ε) fun ds => ret (.tuple ds)
theorem PRg.weak {X : Cx} {e : Expr} {t t' : L2.St → Hp → (Int → Int → Hp → Prop) → Prop} (h : PRg X e t) (k : ∀ σ H Q, t' σ H Q → t σ H Q) : PRg X e t' := fun pins s σ H Q I q => h pins s σ H Q I (k σ H Q q)
theorem dvs_map {K : PySem.W.Frag} {H : Hp} {mu : Addr → Prop} {α : Type} (f : α → V) (g : α → D) (h : ∀ x, Dv K H mu (f x) (g x)) : ∀ l : List α, Dvs K H mu (l.map f) (l.map g)
  | [] => .nil
  | x :: l => .cons (h x) (dvs_map f g h l)
theorem dvs_rg {K : PySem.W.Frag} {H : Hp} {mu : Addr → Prop} (i j : Int) : Dvs K H mu (rgV i j) (rngL i (j - i).toNat) := dvs_map _ _ (fun k => .int _) _
section
variable {X : Cx} {W : WX} {a b e : Expr} {fa fb : XE} {f : XL} {pos p : Pos}
theorem drg_1 (hg : Gl X "range") (hm : X.mg "range" = none) (ha : DE X W a fa) (na : starEach [a] X.env = (false, eval a X.env) :: starEach [] X.env := by rfl) : DRg X W (.Call (.Name "range" p) [a] [] pos) (iR1 fa) := by
  refine ⟨PRg.weak (prg_1 (p := p) (pos := pos) hg hm ha.pe na) fun σ H Q ⟨w, ε, S, r, o⟩ => ?_⟩
  refine ⟨w, ε, S, r, (OutM.bnd o).imp fun d io1 S1 H1 r1 x1 o1 v dv => ?_⟩
  cases d with
  | int j =>
    obtain ⟨hz, o1⟩ := o1.ite
    simp only [Bool.and_eq_true, decide_eq_true_eq] at hz
    cases dv
    have hb : (big : Int) = 16777216 := rfl
    exact ⟨j, rfl, OutM.ret o1 r1 0 j ⟨by omega, by omega, by omega, by omega, by omega⟩ (by rw [Int.sub_zero])⟩
  | _ => exact (show False from o1).elim
theorem drg_2 (hg : Gl X "range") (hm : X.mg "range" = none) (ha : DE X W a fa) (hb : DE X W b fb) (na : starEach [a, b] X.env = (false, eval a X.env) :: starEach [b] X.env := by rfl) (nb : starEach [b] X.env = (false, eval b X.env) :: starEach [] X.env := by rfl)
    (hp : (backTo pos (starEach [b] X.env)).any (·.1) = false := by rfl) : DRg X W (.Call (.Name "range" p) [a, b] [] pos) (iR2 fa fb) := by
  refine ⟨PRg.weak (prg_2 (p := p) (pos := pos) hg hm ha.pe hb.pe na nb hp) fun σ H Q ⟨w, ε, S, r, o⟩ => ?_⟩
  refine ⟨w, ε, S, r, (OutM.bnd o).imp fun d io1 S1 H1 r1 x1 o1 v dv => ⟨w.at io1, ε, S1, r1, (OutM.bnd o1).imp fun d2 io2 S2 H2 r2 x2 o2 v2 dv2 => ?_⟩⟩
  cases d with
  | int i =>
    cases d2 with
    | int j =>
      obtain ⟨hz, o2⟩ := o2.ite
      simp only [Bool.and_eq_true, decide_eq_true_eq] at hz
      cases dv
      cases dv2
      have hb : (big : Int) = 16777216 := rfl
      exact ⟨i, j, rfl, rfl, OutM.ret o2 r2 i j ⟨by omega, by omega, by omega, by omega, by omega⟩ rfl⟩
    | _ => exact (show False from o2).elim
  | _ => cases d2 <;> exact (show False from o2).elim
theorem de_tupRg (hc : X.calm = true) (hg : Gl X "tuple") (hm : X.mg "tuple" = none) (he : DRg X W e f) (na : starEach [e] X.env = (false, eval e X.env) :: starEach [] X.env := by rfl) : DE X W (.Call (.Name "tuple" p) [e] [] pos) (xTupI f) := by
  refine ⟨(pe_tupRg hc hg hm he.pr na).weak fun σ H Q ⟨w, ε, S, r, o⟩ => ?_⟩
  refine ⟨w, ε, S, r, (OutM.bnd o).imp fun ds io1 S1 H1 r1 x1 o1 i j ok e => ⟨ok, fun q hq => ?_⟩⟩
  subst e
  exact o1 io1 _ (r1.grow (Grow.upd hq)) (Grow.upd hq).exx _ (new_tup (fun a z => r1.muh z) hq (dvs_rg i j))
theorem dl_listRg (hc : X.calm = true) (hg : Gl X "list") (hm : X.mg "list" = none) (he : DRg X W e f) (na : starEach [e] X.env = (false, eval e X.env) :: starEach [] X.env := by rfl) : DL X W (.Call (.Name "list" p) [e] [] pos) f := by
  refine ⟨(pe_listRg hc hg hm he.pr na).weak fun σ H Q ⟨w, ε, S, r, o⟩ => ?_⟩
  refine ⟨w, ε, S, r, o.imp fun ds io1 S1 H1 r1 x1 o1 i j ok e => ⟨ok, fun q hq => ?_⟩⟩
  subst e
  exact o1 q _ hq (dvs_rg i j)
end
theorem hu_room {k : Nat} {A : Around} (r : Room k A) : A.units + 100 < cLine := by have := r.un; omega
theorem ds_par3 {X : Cx} {W : WX} {i j l : Nat} {x y z : Str} {a b c : Expr} {fa fb fc : XE} {px py pz pt pos : Pos} {kt k2 : Nat} {pt2 : Pos} (hc : X.calm = true) (hN : X.N.Nodup) (hi : X.N[i]? = some x) (hj : X.N[j]? = some y) (hl : X.N[l]? = some z) (hij : i ≠ j) (hil : i ≠ l) (hjl : j ≠ l)
    (hx : X.env.scope.names.lookup x = some .local) (hy : X.env.scope.names.lookup y = some .local) (hz : X.env.scope.names.lookup z = some .local) (ha : DE X W a fa) (hb : DE X W b fb) (hcc : DE X W c fc)
    (hw : swappedStores [.Tuple [.Name x px, .Name y py, .Name z pz] kt pt] (.Tuple [a, b, c] k2 pt2) X.env = pure (some [x, y, z]))
    (hs : swapsWithSole [.Tuple [.Name x px, .Name y py, .Name z pz] kt pt] (.Tuple [a, b, c] k2 pt2) pos.line X.env = pure false := by rfl)
    (h1 : starEach [a, b, c] X.env = (false, eval a X.env) :: starEach [b, c] X.env := by rfl) (h2 : starEach [b, c] X.env = (false, eval b X.env) :: starEach [c] X.env := by rfl) (h3 : starEach [c] X.env = (false, eval c X.env) :: starEach [] X.env := by rfl) :
    DS X W (.Assign [.Tuple [.Name x px, .Name y py, .Name z pz] kt pt] (.Tuple [a, b, c] k2 pt2) pos) (sPar3 i j l fa fb fc) := by
  refine ⟨(ps_par3 hc hN hi hj hl hij hil hjl hx hy hz (pa_cons ha.pe (pa_cons hb.pe (pa_cons hcc.pe pa_nil h3) h2) h1) hw hs).weak fun D0 σ H ⟨w, ε, S, r, o⟩ => ?_⟩
  refine ⟨w, ε, S, r, (OutS.exp o).imp fun d io1 S1 H1 r1 x1 o1 v dv => ⟨w.at io1, ε, S1, r1, (OutS.exp o1).imp fun d2 io2 S2 H2 r2 x2 o2 v2 dv2 => ⟨w.at io2, ε, S2, r2, (OutS.exp o2).imp fun d3 io3 S3 H3 r3 x3 o3 v3 dv3 => ⟨v, v2, v3, rfl, ?_⟩⟩⟩⟩
  have e1 := (dv.exx x2).exx x3
  have e2 := dv2.exx x3
  exact OutS.nx o3 (((r3.keepSh e1 i).keepSh (Dv.mono (fun _ _ _ q _ => q) (fun _ _ z => Wd.clr_mu z) _ _ e2) j).keepSh (Dv.mono (fun _ _ _ q _ => q) (fun _ _ z => Wd.clr_mu (Wd.clr_mu z)) _ _ dv3) l) (((Ext.clr _ _ _).trans (Ext.clr _ _ _)).trans (Ext.clr _ _ _)) rfl
end Tn
end

section
set_option Elab.async false
set_option linter.all false
set_option maxRecDepth 100000
set_option maxHeartbeats 1000000
/-! t[::-1] of a tuple -/
namespace Tn
open PySem PySem.Spec PyProof.Rows L2
section
variable {prog : Program} {w : World} {A : Around} {E : Value → Shared → Prop} {s : Shared}
theorem applied_back {sl : Addr} {u : Tok} {n : Nat} {Q : Int × Int × Nat → Shared → Prop} (hs : s.heap.IsSliceOf sl .none .none (.int (-1) u)) (h : Q ((n : Int) - 1, -1, n) s) : wpAny (model prog w) A (Builtin.Slice.sliceApplied (.ref sl) (pure (n : Int))) Q E s := by
  obtain ⟨os, hos, hcs, hds⟩ := id hs
  unfold Builtin.Slice.sliceApplied Builtin.Slice.sliceFields
  refine wpAny_bind (wpAny_bind (wpAny_field hos hds (x := .none) rfl (wpAny_bind (wpAny_field hos hds (x := .none) rfl (wpAny_bind (wpAny_field hos hds (x := .int (-1) u) rfl (wpAny_pure ?_)))))))
  refine wpAny_bind (slicePart_int ?_)
  show wpAny _ _ (if ((-1 : Int) == 0) = true then _ else _) _ _ s
  rw [if_neg (by decide)]
  refine wpAny_bind (slicePart_none (wpAny_bind (slicePart_none (wpAny_bind (wpAny_pure ?_)))))
  show wpAny _ _ (match Builtin.Slice.sliceAdjust none none (-1) (n : Int) with | (lo, hi) => pure (lo, (-1 : Int), Builtin.Slice.slicePlaces lo hi (-1))) _ _ s
  have e : Builtin.Slice.sliceAdjust none none (-1) (n : Int) = ((n : Int) - 1, -1) := by
    unfold Builtin.Slice.sliceAdjust
    simp
  rw [e]
  have e2 : Builtin.Slice.slicePlaces ((n : Int) - 1) (-1) (-1) = n := by
    unfold Builtin.Slice.slicePlaces
    simp
    split <;> omega
  show wpAny _ _ (pure ((n : Int) - 1, (-1 : Int), Builtin.Slice.slicePlaces ((n : Int) - 1) (-1) (-1))) _ _ s
  rw [e2]
  exact wpAny_pure h
theorem fm_congr {α β : Type} {f g : α → Option β} : ∀ {l : List α}, (∀ x ∈ l, f x = g x) → l.filterMap f = l.filterMap g
  | [], _ => rfl
  | x :: l, h => by
    have h1 := h x List.mem_cons_self
    have h2 := fm_congr (l := l) fun y hy => h y (List.mem_cons_of_mem _ hy)
    rw [List.filterMap_cons, List.filterMap_cons, h1, h2]
theorem pick_back (xs : Array Value) : ((List.range xs.size).filterMap fun (m : Nat) => xs[((xs.size : Int) - 1 + (m : Int) * (-1)).toNat]?).toArray = xs.toList.reverse.toArray := by
  have e : ((List.range xs.size).filterMap fun (m : Nat) => xs[((xs.size : Int) - 1 + (m : Int) * (-1)).toNat]?) = (List.range xs.size).filterMap fun (m : Nat) => xs[xs.size - 1 - m]? := by
    refine fm_congr fun m hm => ?_
    have hm := List.mem_range.mp hm
    have : ((xs.size : Int) - 1 + (m : Int) * (-1)).toNat = xs.size - 1 - m := by omega
    rw [this]
  rw [e]
  have e2 : ((List.range xs.size).filterMap fun (m : Nat) => xs[xs.size - 1 - m]?) = ((List.range xs.size).map fun k => xs.size - 1 - k).filterMap (xs[·]?) := by rw [List.filterMap_map]; rfl
  rw [e2, PySem.W.krv_range, List.filterMap_reverse, PySem.W.krv_all]
theorem getItem_tuple_back {t sl : Addr} {items : Array Value} {u : Tok} {Q : Value → Shared → Prop} (ht : IsTup s.heap t items) (hs : s.heap.IsSliceOf sl .none .none (.int (-1) u))
    (h : Q (.ref s.heap.objs.size) { s with heap := s.heap.push { cls := .type "tuple", data := .seq items.toList.reverse.toArray } }) (hsz : items.size ≤ sizeLine) : wpAny (model prog w) A (getItem (.ref t) (.ref sl)) Q E s := by
  have htake : sizeOk (.seq items.toList.reverse.toArray) := by
    show items.toList.reverse.toArray.size ≤ sizeLine
    rw [List.size_toArray, List.length_reverse, Array.length_toList]
    exact hsz
  obtain ⟨os, hos, hcs, hds⟩ := id hs
  have hTs : s.TypeIs (.ref sl) "slice" := ⟨os, hos, hcs⟩
  unfold getItem
  try with_reducible refine wpAny_holding ?_
  first | refine wpAny_bind (wpAny_pure ?_) | skip
  refine wpAny_bind (wpAny_sequenceKey ht.typeIs (by decide) ?_)
  refine wpAny_bind (wpAny_callSpecial?_slot (name := Str.ofString "__getitem__") ht.typeIs PyProof.Rows.slot_tuple_getitem
    (wpAny_call_entry PyProof.Rows.slot_tuple_getitem ht.typeIs entry_tuple_getitem ?_ (args_tuple_getitem _ _)))
  show wpAny _ _ (Builtin.Tuple.tupleItemsOf (.ref t) >>= _) _ _ s
  refine wpAny_bind (tupleItemsOf_ ht ?_)
  refine wpAny_bind (wpAny_typeOf hTs ?_)
  rw [if_pos (by decide)]
  refine wpAny_bind (applied_back hs ?_)
  show wpAny _ _ (if (((items.size : Int) - 1) == 0 && (-1 : Int) == 1 && items.size == items.size) = true then _ else _) _ _ s
  rw [if_neg (by simp), pick_back]
  first
    | exact wpAny_bind (m := Builtin.Tuple.tupleExact _) (wpAny_newObj_type (wpAny_pure ⟨_, rfl, wpAny_pure h⟩) htake)
    | exact wpAny_bind (m := Builtin.Tuple.tupleExact _) (wpAny_newObj_type (wpAny_bind (wpAny_pure (wpAny_pure ⟨_, rfl, wpAny_pure h⟩))) htake)
    | exact wpAny_bind (wpAny_bind (m := Builtin.Tuple.tupleExact _) (wpAny_newObj_type (wpAny_pure (wpAny_pure ⟨_, rfl, wpAny_pure h⟩)) htake))
    | exact wpAny_bind (wpAny_bind (m := Builtin.Tuple.tupleExact _) (wpAny_newObj_type (wpAny_pure ⟨_, rfl, wpAny_pure h⟩) htake))
end
theorem vals_back {xs : List V} {us : List Value} (r : Vals xs us) : Vals xs.reverse us.reverse := by
  induction r with
  | nil => exact .nil
  | cons r1 r2 ih =>
    rw [List.reverse_cons, List.reverse_cons]
    exact ih.append (.cons r1 .nil)
section
variable {X : Cx} {e : Expr} {te : TE} {pos p2 p3 p4 : Pos} {j : Nat}
theorem pe_back (he : PE X e te) : PE X (.Subscript e (.Slice none none (some (.UnaryOp .USub (.Constant (.int 1) j p4) p3)) p2) pos) (fun σ H Q => te σ H fun x H1 => ∃ a xs, x = .ref a ∧ ((SqT X.K H1 a xs ∧ ∀ q, H1 q = none → Q (.ref q) (upd H1 q (.tup xs.reverse))) ∨ (SqL X.K H1 a xs ∧ ∀ q, H1 q = none → Q (.ref q) (upd H1 q (.lst xs.reverse))))) := by
  refine ⟨fun pins s σ H Q I h => ?_⟩
  refine Subscript_ (thn (he.run pins s σ H _ I h) fun v s1 ⟨x, H1, I1, r1, q1⟩ => ?_)
  refine wpAny_Slice ?_
  rw [evalPart_none]
  refine wpAny_pure ?_
  refine wpAny_pure ?_
  have hp : PO X (some (.UnaryOp .USub (.Constant (.int 1) j p4) p3)) (tPart (tUn _ (tC (.int 1)))) := po_some (pe_un un_neg pe_int)
  refine thn (hp.run pins s1 σ H1 (fun o H2 => o = some (-1) ∧ H2 = H1) I1 ⟨1, rfl, -1, rfl, rfl, rfl⟩) fun vs s3 ⟨l, H3, I3, pu, ev, eH⟩ => ?_
  subst ev eH
  obtain ⟨a, xs, rfl, hq⟩ := q1
  cases r1
  cases pu with
  | int i t =>
    have I4 : Inv X pins σ H3 { s3 with heap := s3.heap.push { cls := .type "slice", data := .fields #[.none, .none, .int (-1) t] } } := I3.kept (t' := s3.toks) fun b ob q => Heap.get?_push_of_some _ q
    rcases hq with ⟨hx, q⟩ | ⟨hx, q⟩
    · obtain ⟨its, r, ht, hz⟩ := I4.tuple hx
      have hlen : its.toArray.size = xs.length := by rw [List.size_toArray]; exact r.length.symm
      show wpAny (model X.prog X.w) X.A (subscriptTail e _ (.ref a) (.ref s3.heap.objs.size)) (EP X pins σ Q) X.xe { s3 with heap := s3.heap.push { cls := .type "slice", data := .fields #[.none, .none, .int (-1) t] } }
      refine tail_any (ops := [.ref a, .ref s3.heap.objs.size]) ht.typeIs PyProof.Rows.slot_tuple_getitem.lookup ?_ (by with_unfolding_all rfl)
      refine getItem_tuple_back ht (Heap.IsSliceOf.new ..) ?_ (by rw [hlen]; exact hz)
      refine ⟨.ref _, _, I4.laid (t' := s3.toks) (o := .tup xs.reverse) (fun b ob q => Heap.get?_push_of_some _ q) (Nat.le_refl _) ?_, rfl, q _ (I4.hok.fresh (Nat.le_refl _))⟩
      exact ⟨by rw [List.length_reverse]; exact hz, _, vals_back r, IsTup.new _ _⟩
    · obtain ⟨its, r, ht, hz⟩ := I4.list hx
      have hlen : its.toArray.size = xs.length := by rw [List.size_toArray]; exact r.length.symm
      show wpAny (model X.prog X.w) X.A (subscriptTail e _ (.ref a) (.ref s3.heap.objs.size)) (EP X pins σ Q) X.xe { s3 with heap := s3.heap.push { cls := .type "slice", data := .fields #[.none, .none, .int (-1) t] } }
      refine tail_any (ops := [.ref a, .ref s3.heap.objs.size]) ht.isList.typeIs slot_list_getitem.lookup ?_ (by with_unfolding_all rfl)
      refine wpAny_getItem_list_slice ht.isList (Heap.IsSliceOf.new ..) .none .none (.int (-1) t) (by simp) ?_ (by rw [hlen]; exact hz)
      rw [PySem.W.krv_pick]
      refine ⟨.ref _, _, I4.laid (t' := s3.toks) (o := .lst xs.reverse) (fun b ob q => Heap.get?_push_of_some _ q) (Nat.le_refl _) ?_, rfl, q _ (I4.hok.fresh (Nat.le_refl _))⟩
      exact ⟨by rw [List.length_reverse]; exact hz, _, 0, vals_back r, Heap.get?_push_size _ rfl⟩
end
variable [TB]
theorem de_rev {X : Cx} {W : WX} {a : Expr} {fa : XE} {pos p2 p3 p4 : Pos} {j : Nat} (ha : DE X W a fa) : DE X W (.Subscript a (.Slice none none (some (.UnaryOp .USub (.Constant (.int 1) j p4) p3)) p2) pos) (x1 opRevT fa) := by
  refine ⟨(pe_back ha.pe).weak fun σ H Q ⟨w, ε, S, r, o⟩ => ?_⟩
  refine ⟨w, ε, S, r, (OutM.bnd o).imp fun d io1 S1 H1 r1 x1 o1 x hx => ?_⟩
  obtain ⟨d2, e, k⟩ := o1.lft r1
  unfold opRevT at e
  split at e
  · rename_i ds
    cases e
    obtain ⟨p, xs, rfl, hp, hk⟩ := Rv.tup (.inl hx)
    exact ⟨p, xs, rfl, .inl ⟨hp, fun q hq => k _ (Grow.upd hq) _ (new_tup (fun a z => r1.muh z) hq hk.rev)⟩⟩
  · rename_i ds
    cases e
    obtain ⟨p, xs, rfl, hp, hk⟩ := Rv.lst (.inl hx)
    exact ⟨p, xs, rfl, .inr ⟨hp, fun q hq => k _ (Grow.upd hq) _ (new_lst (fun a z => r1.muh z) hq hk.rev)⟩⟩
  · cases e
end Tn
end

section
set_option Elab.async false
set_option linter.all false
set_option maxRecDepth 100000
set_option maxHeartbeats 1000000
namespace Tn
open PySem PySem.Spec PyProof.Rows L2
variable [TB]
/-- a def that makes lambdas: its code object, and the table there -/
structure LamT (K : PySem.W.Frag) (base : Heap) (mg : Str → Option Value) (x : Str) (f : Addr) : Prop where
  ex : ∃ (c P : Addr) (oc : Value) (od : Option Addr) (fd : FuncData) (osl : Array (Option Value)), K.lookup f = some ⟨oc, od, .func fd, osl⟩ ∧ fd.code = .ref c ∧ LamX.TabB base mg c P ∧ (P, x ++ ".<locals>." ++ "<lambda>") ∈ TB.tb ∧ ∀ p ∈ TB.tb, p.1 = P → p.2 = x ++ ".<locals>." ++ "<lambda>"
theorem fn_L {P : Program} {w : World} {K : PySem.W.Frag} {mg : Str → Option Value} {base : Heap} {k : Nat} {x : Str} {st : Stmt} {f : Addr} {fd : FuncData} {N ps : List Str} {np ns : Nat} {fb : XS} (T : LamT K base mg x f) (F : Fun K x x st f fd) (S : FnScope N ps (defScope st)) (hnp : ps.length = np) (hns : N.length = ns)
    (hbody : ∀ (cdv : Value) (A : Around) (outer : List Env) (s : Shared) (H : Hp) (E : XK), LamAt (cxOf (L2.CX P w) P w K mg base N x (defScope st) f cdv A outer s H E) → Room k (A.deeper (envOfC x (defScope st) s.heap.objs.size f cdv)) →
      DSs (cxOf (L2.CX P w) P w K mg base N x (defScope st) f cdv A outer s H E) (fun cls d _ H => E cls d H) (defBody st) fb) : FnOk P w K mg base (L2.CX P w) (k + 1) f fd ps (spD K mg (mkFn np ns fb)) := by
  obtain ⟨c, Pt, oc, od, fd2, osl, h1, h2, h3, h4, h5⟩ := T.ex
  have len : ∀ vs H Q E, spD K mg (mkFn np ns fb) vs H Q E → vs.length = ps.length := fun vs H Q E ⟨w, args, S, h2, r, h⟩ => by
    unfold mkFn at h
    split at h
    · rename_i hc
      have := r.le
      rw [Bool.and_eq_true, decide_eq_true_eq] at hc
      rw [List.length_map, hc.1] at this
      omega
    · exact h.elim
  obtain ⟨oc3, od3, kV, doc, pm, an, cdv, ct, osl3, rfl, lk, hcd⟩ := F.ex
  have e : cdv = .ref c := by
    rw [h1] at lk
    cases lk
    exact h2
  subst e
  refine fn_of lk hcd S len fun A outer s H vs Q E hr h => ⟨_, (hbody (.ref c) A outer s H E ⟨c, Pt, rfl, h3, h4, h5⟩ hr).pss, ?_⟩
  have hl := len _ _ _ _ h
  obtain ⟨w, args, S, h2, r, h⟩ := h
  unfold mkFn at h
  split at h
  · rename_i hc
    have r2 := r.more (ns - np)
    have e : L2.start N vs = vs.map some ++ List.replicate (ns - np) none := by
      unfold L2.start
      rw [hl, hns, hnp]
    refine ⟨w, args ++ List.replicate (ns - np) .un, S, ?_, res_body (K := K) (mg := mg) h2 r2 h⟩
    show Rp K w _ S (L2.start N vs) H
    rw [e]
    exact r2
  · exact h.elim
/-! ### the end -/
theorem tab_code {K : PySem.W.Frag} {x : Str} {f c P : Addr} {oc : Value} {od : Option Addr} {fd : FuncData} {osl : Array (Option Value)} (a : PySem.W.nsIn K mainGlobals x = some (some (.ref f))) (l : K.lookup f = some ⟨oc, od, .func fd, osl⟩) (h : PySem.W.tabIn K x = some (c, P)) : fd.code = .ref c := by
  unfold PySem.W.tabIn at h
  rw [a] at h
  simp only [l] at h
  split at h
  · rename_i c1 e1
    split at h
    · split at h
      · cases h; exact e1
      · cases h
    · cases h
  · cases h
theorem exM_of {K : PySem.W.Frag} {h : Heap} {mg : Str → Option Value} {C1 C2 C3 : Addr} (X : K.In h) (G : h.Ns mainGlobals mg) (g1 : PySem.W.nsIn K mainGlobals "BadTune" = some (some (.ref C1))) (g2 : PySem.W.nsIn K mainGlobals "NotSo" = some (some (.ref C2))) (g3 : PySem.W.nsIn K mainGlobals "TooMuch" = some (some (.ref C3)))
    (q1 : PySem.W.excIn K C1 veB "ValueError.__new__" = true) (q2 : PySem.W.excIn K C2 veB "ValueError.__new__" = true) (q3 : PySem.W.excIn K C3 veB "ValueError.__new__" = true) (k1 : PySem.W.keepIn K (.ref C1) = true) (k2 : PySem.W.keepIn K (.ref C2) = true) (k3 : PySem.W.keepIn K (.ref C3) = true)
    (s1 : PySem.W.subIn K (.ref C1) (.type "BaseException") = some true) (s2 : PySem.W.subIn K (.ref C2) (.type "BaseException") = some true) (s3 : PySem.W.subIn K (.ref C3) (.type "BaseException") = some true) (t1 : PySem.W.typeIn K (.ref C1) = some (.type "type")) (t2 : PySem.W.typeIn K (.ref C2) = some (.type "type")) (t3 : PySem.W.typeIn K (.ref C3) = some (.type "type"))
    (m11 : PySem.W.exmOne K (.ref C1) (.ref C1) = some true) (m12 : PySem.W.exmOne K (.ref C1) (.ref C2) = some false) (m13 : PySem.W.exmOne K (.ref C1) (.ref C3) = some false) (m21 : PySem.W.exmOne K (.ref C2) (.ref C1) = some false) (m22 : PySem.W.exmOne K (.ref C2) (.ref C2) = some true) (m23 : PySem.W.exmOne K (.ref C2) (.ref C3) = some false)
    (m31 : PySem.W.exmOne K (.ref C3) (.ref C1) = some false) (m32 : PySem.W.exmOne K (.ref C3) (.ref C2) = some false) (m33 : PySem.W.exmOne K (.ref C3) (.ref C3) = some true) : ExM K mg (fun e => match e with | .bad => C1 | .notso => C2 | .much => C3) [.bad, .notso, .much] := by
  refine ⟨fun e _ => ?_, fun e _ => ?_, fun e _ => ?_, fun e _ => ?_, fun e _ => ?_, fun e _ e' _ => ?_⟩
  · cases e
    · exact PySem.W.mg_of X G g1
    · exact PySem.W.mg_of X G g2
    · exact PySem.W.mg_of X G g3
  · cases e <;> assumption
  · cases e <;> assumption
  · cases e <;> assumption
  · cases e <;> assumption
  · cases e <;> cases e' <;> assumption
theorem exM_of2 {K : PySem.W.Frag} {h : Heap} {mg : Str → Option Value} {C1 C2 : Addr} (X : K.In h) (G : h.Ns mainGlobals mg) (g1 : PySem.W.nsIn K mainGlobals "BadTune" = some (some (.ref C1))) (g2 : PySem.W.nsIn K mainGlobals "NotSo" = some (some (.ref C2)))
    (q1 : PySem.W.excIn K C1 veB "ValueError.__new__" = true) (q2 : PySem.W.excIn K C2 veB "ValueError.__new__" = true) (k1 : PySem.W.keepIn K (.ref C1) = true) (k2 : PySem.W.keepIn K (.ref C2) = true)
    (s1 : PySem.W.subIn K (.ref C1) (.type "BaseException") = some true) (s2 : PySem.W.subIn K (.ref C2) (.type "BaseException") = some true) (t1 : PySem.W.typeIn K (.ref C1) = some (.type "type")) (t2 : PySem.W.typeIn K (.ref C2) = some (.type "type"))
    (m11 : PySem.W.exmOne K (.ref C1) (.ref C1) = some true) (m12 : PySem.W.exmOne K (.ref C1) (.ref C2) = some false) (m21 : PySem.W.exmOne K (.ref C2) (.ref C1) = some false) (m22 : PySem.W.exmOne K (.ref C2) (.ref C2) = some true) : ExM K mg (fun e => match e with | .bad => C1 | .notso => C2 | .much => C2) [.bad, .notso] := by
  have no : ¬ Ex.much ∈ [Ex.bad, Ex.notso] := by decide
  refine ⟨fun e z => ?_, fun e z => ?_, fun e z => ?_, fun e z => ?_, fun e z => ?_, fun e z e' z' => ?_⟩
  · cases e
    · exact PySem.W.mg_of X G g1
    · exact PySem.W.mg_of X G g2
    · exact absurd z no
  · cases e <;> first | assumption | exact absurd z no
  · cases e <;> first | assumption | exact absurd z no
  · cases e <;> first | assumption | exact absurd z no
  · cases e <;> first | assumption | exact absurd z no
  · cases e <;> cases e' <;> first | assumption | exact absurd z no | exact absurd z' no
theorem exM_of3 {K : PySem.W.Frag} {h : Heap} {mg : Str → Option Value} {C1 C2 : Addr} (X : K.In h) (G : h.Ns mainGlobals mg) (g1 : PySem.W.nsIn K mainGlobals "BadTune" = some (some (.ref C1))) (g2 : PySem.W.nsIn K mainGlobals "TooMuch" = some (some (.ref C2)))
    (q1 : PySem.W.excIn K C1 veB "ValueError.__new__" = true) (q2 : PySem.W.excIn K C2 veB "ValueError.__new__" = true) (k1 : PySem.W.keepIn K (.ref C1) = true) (k2 : PySem.W.keepIn K (.ref C2) = true)
    (s1 : PySem.W.subIn K (.ref C1) (.type "BaseException") = some true) (s2 : PySem.W.subIn K (.ref C2) (.type "BaseException") = some true) (t1 : PySem.W.typeIn K (.ref C1) = some (.type "type")) (t2 : PySem.W.typeIn K (.ref C2) = some (.type "type"))
    (m11 : PySem.W.exmOne K (.ref C1) (.ref C1) = some true) (m12 : PySem.W.exmOne K (.ref C1) (.ref C2) = some false) (m21 : PySem.W.exmOne K (.ref C2) (.ref C1) = some false) (m22 : PySem.W.exmOne K (.ref C2) (.ref C2) = some true) : ExM K mg (fun e => match e with | .bad => C1 | .notso => C2 | .much => C2) [.bad, .much] := by
  have no : ¬ Ex.notso ∈ [Ex.bad, Ex.much] := by decide
  refine ⟨fun e z => ?_, fun e z => ?_, fun e z => ?_, fun e z => ?_, fun e z => ?_, fun e z e' z' => ?_⟩
  · cases e
    · exact PySem.W.mg_of X G g1
    · exact absurd z no
    · exact PySem.W.mg_of X G g2
  · cases e <;> first | assumption | exact absurd z no
  · cases e <;> first | assumption | exact absurd z no
  · cases e <;> first | assumption | exact absurd z no
  · cases e <;> first | assumption | exact absurd z no
  · cases e <;> cases e' <;> first | assumption | exact absurd z no | exact absurd z' no
theorem exM_of1 {K : PySem.W.Frag} {h : Heap} {mg : Str → Option Value} {C1 : Addr} (X : K.In h) (G : h.Ns mainGlobals mg) (g1 : PySem.W.nsIn K mainGlobals "BadTune" = some (some (.ref C1)))
    (q1 : PySem.W.excIn K C1 veB "ValueError.__new__" = true) (k1 : PySem.W.keepIn K (.ref C1) = true)
    (s1 : PySem.W.subIn K (.ref C1) (.type "BaseException") = some true) (t1 : PySem.W.typeIn K (.ref C1) = some (.type "type"))
    (m11 : PySem.W.exmOne K (.ref C1) (.ref C1) = some true) : ExM K mg (fun _ => C1) [.bad] := by
  refine ⟨fun e z => ?_, fun e z => ?_, fun e z => ?_, fun e z => ?_, fun e z => ?_, fun e z e' z' => ?_⟩
  · rw [List.mem_singleton.mp z]; exact PySem.W.mg_of X G g1
  · exact q1
  · exact k1
  · exact s1
  · exact t1
  · rw [List.mem_singleton.mp z, List.mem_singleton.mp z']; exact m11
theorem cod_int {K : PySem.W.Frag} {h : Heap} {mg : Str → Option Value} {x : Str} {i : Int} {t : Tok} (X : K.In h) (G : h.Ns mainGlobals mg) (a : PySem.W.nsIn K mainGlobals x = some (some (.int i t))) : CoD K mg x (.int i) := ⟨⟨_, .int i, PySem.W.mg_of X G a, ⟨_, rfl⟩, fun _ _ => .int _⟩⟩
theorem cod_str {K : PySem.W.Frag} {h : Heap} {mg : Str → Option Value} {x s : Str} {t : Tok} (X : K.In h) (G : h.Ns mainGlobals mg) (a : PySem.W.nsIn K mainGlobals x = some (some (.str s t))) (hs : PyData.strOk s = true) : CoD K mg x (.str s) := ⟨⟨_, .str s, PySem.W.mg_of X G a, ⟨_, rfl⟩, fun _ _ => .str _ hs⟩⟩
theorem lawAt_of {l : PySem.W.OpenLaw} {w : World} {K : PySem.W.Frag} {k n : Nat} {x : Str} {mg : Str → Option Value} {fa : Addr} {h : Heap} {fd : FuncData} {F : Fn} (cs : List (Addr × Addr)) (hT : ∀ p ∈ cs, h.get? p.2 = some { cls := .none, data := .fields #[] }) (nT : ∀ p ∈ cs, K.lookup p.2 = none)
    (hC : ∀ p ∈ cs, PySem.W.CodeHd h p.1 p.2) (hb : ∀ (s : Shared) (u : Value), BindsTo s fd ⟨[u], []⟩ [(x, u)]) (htb : ∀ q ∈ TB.tb, ∃ p ∈ cs, p.2 = q.1)
    (hF : ∀ ns : List Int, ns.length ≤ n → (∀ z ∈ ns, Builtin.Int.intBits z ≤ 1048576) → ∃ S', F [.sc (.list (ns.map .int))] [] = some (.ok (.sh (.bool true)) S'))
    (ok : ∀ base : Heap, K.In base → base.Ns mainGlobals mg → (∀ p ∈ cs, LamX.TabB base mg p.1 p.2) → FnOk l.prog w K mg base (L2.CX l.prog w) k fa fd [x] (spD K mg F)) : LamX.LawAtS l w K (L2.CX l.prog w) k n x mg fa h :=
  ⟨fd, cs, spD K mg F, hT, nT, hC, hb, fun H a ns hl hbits ht hS => law_sp (fun q hq => by
    obtain ⟨p, hp, e⟩ := htb q hq
    exact .nil (by rw [← e]; exact ht p hp)) hS (hF ns hl hbits), ok⟩
omit [TB] in
theorem cx_none {P : Program} {w : World} {H : Hp} {s : Shared} {e : Value} {s' : Shared} (h : L2.CX P w [] H s (fun _ _ _ => False) e s') : False := by
  obtain ⟨_, _, _, _, _, _, _, _, _, _, _, _, q⟩ := h
  exact q
end Tn
end

section
set_option Elab.async false
set_option linter.all false
set_option maxRecDepth 100000
set_option maxHeartbeats 1000000
/-! repr, where no repr is under way -/
namespace Tn
open PySem PySem.Spec PyProof.Rows L2
variable {X : Cx} [TB]
theorem od_repr (hg : X.A.guards = some []) (hu : X.A.units + 100 < cLine) : CallR X (.builtin "repr") (rC1 X.K opRepr) := by
  intro pins s σ H xs us Q I rs h
  obtain ⟨x, rfl, mu, d1, d, m, h1, e, q⟩ := h
  obtain ⟨u, rfl, ru⟩ := vals1 rs
  unfold opRepr at e
  split at e
  · rename_i hz
    cases e
    simp only [Bool.and_eq_true, decide_eq_true_eq, Bool.not_eq_true'] at hz
    obtain ⟨⟨⟨⟨z1, z2⟩, z3⟩, z4⟩, z5⟩ := hz
    have fin : ∀ (h' : Heap) (t : Tok) (tk : Nat), (∀ b o, s.heap.get? b = some o → h'.get? b = some o) → EP X pins σ Q (.str d1.shown t) { s with heap := h', toks := tk } := fun h' t tk hk => ⟨.str _, H, I.kept hk, ⟨t, rfl⟩, q _ H (Grow.refl H) (.str _ z5)⟩
    have cont : ∀ a : Addr, u = .ref a → wpAny (model X.prog X.w) X.A (call (.builtin "repr") [u]) (EP X pins σ Q) X.xe s := fun a ea => by
      subst ea
      obtain ⟨as, ra⟩ := Dp.reads I _ _ _ (Rv.dp h1) ru
      exact repr_of_reads' ra z1 (fun z => by rw [z2] at z; cases z) hg (by omega) (fun _ _ e => e) (fun h' t tk hk => fin h' t tk hk) (Nat.le_trans z4 big_le)
    have tk : ∀ (t : Tok) (k : Nat), EP X pins σ Q (.str d1.shown t) { s with toks := k } := fun t k => ⟨.str _, H, I.tok _, ⟨t, rfl⟩, q _ H (Grow.refl H) (.str _ z5)⟩
    cases d1 with
    | none =>
      have ev := h1.non
      subst ev
      obtain rfl : u = Value.none := ru
      exact PySem.P.repr_of_none (tk _ _)
    | bool b =>
      have ev := h1.bl
      subst ev
      obtain rfl : u = Value.bool b := ru
      refine PySem.P.repr_of_bool ?_
      cases b <;> exact tk _ _
    | int i =>
      have ev := h1.int
      subst ev
      obtain ⟨t, rfl⟩ := ru
      have z1 : decide (i.natAbs.log2 < 1920) = true := z1
      exact PySem.P.repr_of_int (of_decide_eq_true z1) (tk _ _)
    | str x =>
      obtain ⟨ev, _⟩ := h1.str
      subst ev
      obtain ⟨t, rfl⟩ := ru
      exact PySem.P.repr_of_str (tk _ _) (Nat.le_trans z4 big_le)
    | list ds =>
      obtain ⟨a, ys, rfl, _⟩ := h1.lst
      exact cont a ru
    | tuple ds =>
      obtain ⟨a, ys, rfl, _⟩ := h1.tup
      exact cont a ru
    | dict kvs => exact (h1.noDict).elim
  · cases e
end Tn
end

section
set_option Elab.async false
set_option linter.all false
set_option maxRecDepth 100000
set_option maxHeartbeats 2000000
/-! the end of a law that shows data (repr): its own def is walked at the caller alone, where no repr is under way -/
namespace Tn
open PySem PySem.Spec PyProof.Rows L2
/-- what the law's def does for the caller -/
def RunG (P : Program) (w : World) (K : PySem.W.Frag) (mg : Str → Option Value) (base : Heap) (CX : CXT) (k : Nat) (f : Addr) (fd : FuncData) (ps : List Str) (sp : Sp) : Prop :=
  ∀ (s : Shared) (H : Hp) (args : Args) (us : List Value) (vs : List V) (Q : VK) (E : XK), Room k callerA → Env0 P w K mg base callerA [] s H → BindsTo s fd args (ps.zip us) → Vals vs us → sp vs H Q E →
    codeAny (model P w) callerA (.call (.ref f) args) (CR CX [] P w H s Q E) s
section
variable [TB]
theorem fn_LG {P : Program} {w : World} {K : PySem.W.Frag} {mg : Str → Option Value} {base : Heap} {k : Nat} {x : Str} {st : Stmt} {f : Addr} {fd : FuncData} {N ps : List Str} {np ns : Nat} {fb : XS} (T : LamT K base mg x f) (F : Fun K x x st f fd) (S : FnScope N ps (defScope st)) (hnp : ps.length = np) (hns : N.length = ns)
    (hbody : ∀ (cdv : Value) (s : Shared) (H : Hp) (E : XK), LamAt (cxOf (L2.CX P w) P w K mg base N x (defScope st) f cdv callerA [] s H E) → Room k (callerA.deeper (envOfC x (defScope st) s.heap.objs.size f cdv)) →
      DSs (cxOf (L2.CX P w) P w K mg base N x (defScope st) f cdv callerA [] s H E) (fun cls d _ H => E cls d H) (defBody st) fb) : RunG P w K mg base (L2.CX P w) (k + 1) f fd ps (spD K mg (mkFn np ns fb)) := by
  intro s H args us vs Q E room env bt vals hsp
  obtain ⟨c, Pt, oc, od, fd2, osl, h1, h2, h3, h4, h5⟩ := T.ex
  obtain ⟨oc3, od3, kV, doc, pm, an, cdv, ct, osl3, rfl, lk, hcd⟩ := F.ex
  have ecd : cdv = .ref c := by
    rw [h1] at lk
    cases lk
    exact h2
  subst ecd
  have body := (hbody (.ref c) s H E ⟨c, Pt, rfl, h3, h4, h5⟩ (room.deeper _)).pss
  obtain ⟨wd, as, S0, hom, rp, hres⟩ := hsp
  unfold mkFn at hres
  split at hres
  case isFalse => exact hres.elim
  rename_i hcond
  have lvs : vs.length = ps.length := by
    have q := rp.le
    rw [Bool.and_eq_true, decide_eq_true_eq] at hcond
    rw [List.length_map, hcond.1] at q
    omega
  have st0 : L2.start N vs = vs.map some ++ List.replicate (ns - np) none := by
    unfold L2.start
    rw [lvs, hns, hnp]
  have rp2 := rp.more (ns - np)
  rw [← st0] at rp2
  have pin : K.In s.heap := env.mod.kin.keeps fun b o e => (env.bs b o e).1
  refine codeAny_call_function room.depth (pin _ _ lk) rfl S.co S.gen rfl (PySem.W.codeRec_of pin hcd) (bt _ _ _ _ ?_)
  have kinds : ∀ y ∈ ps.zip us, (defScope st).names.lookup y.1 = some .local ∨ ((defScope st).names.lookup y.1 = some .cell ∧ ((cellsFrom (s.heap.objs.size + 1) (defScope st).names []).lookup y.1).isSome = true) := fun y hy =>
    (S.par y.1 (List.of_mem_zip (a := y.1) (b := y.2) hy).1).imp_right fun q => ⟨q, PySem.W.cellsFrom_some _ _ _ (.inl q)⟩
  refine wpAny_newFunctionEnv_cells S.kind kinds fun env1 he s1 ic => ?_
  subst he
  have lim : s.heap.NoLimit := env.mod.nolimit.keeps fun b o e => (env.bs b o e).1
  refine ⟨lim.keeps ic.toInCall.keep, codeAny_func (wpAny_mono (body.run [] s1 (start N vs) H _ (inv_start S room.hd env lvs vals ic) ⟨wd, _, S0, rp2, res_body (K := K) (mg := mg) hom rp2 hres⟩) ?_ fun _ _ z => z)⟩
  intro fl s' done
  cases fl
  · obtain ⟨σ1, H1, J, q⟩ := done
    exact ⟨V.non, H1, J.os, J.bare, J.base, J.hok, rfl, q⟩
  · exact done.choose_spec.choose_spec.2.elim
  · exact done.choose_spec.choose_spec.2.elim
  · obtain ⟨v, σ1, H1, J, r, q⟩ := done
    exact ⟨v, H1, J.os, J.bare, J.base, J.hok, r, q⟩
end
end Tn
end

section
set_option Elab.async false
set_option linter.all false
set_option maxRecDepth 100000
set_option maxHeartbeats 2000000
/-! the caller's state: the script and the tables of code objects are tracked, all else is the base -/
namespace Tn
open PySem PySem.Spec PyProof.Rows L2
abbrev emptyTb : Obj := { cls := .none, data := .fields #[] }
abbrev scriptOb (vs : List Value) : Obj := { cls := .type "list", data := .seq vs.toArray }
section
variable (K : PySem.W.Frag) (T : List Addr) (a : Addr) (vs : List Value) (ns : List Int)
/-- what is tracked when the law is called -/
def callHp : Hp := fun b => if b ∈ T then some (.tbl #[]) else if b = a ∧ K.lookup a = none then some (.frz (scriptOb vs) (.lst (ns.map V.int))) else none
variable {K T a vs ns}
theorem callHp_some {b : Addr} {o : HO} (h : callHp K T a vs ns b = some o) : (b ∈ T ∧ o = .tbl #[]) ∨ (b = a ∧ K.lookup a = none ∧ o = .frz (scriptOb vs) (.lst (ns.map V.int))) := by
  unfold callHp at h
  by_cases hT : b ∈ T
  · rw [if_pos hT] at h; exact .inl ⟨hT, (Option.some.inj h).symm⟩
  · rw [if_neg hT] at h
    by_cases hb : b = a ∧ K.lookup a = none
    · rw [if_pos hb] at h; exact .inr ⟨hb.1, hb.2, (Option.some.inj h).symm⟩
    · rw [if_neg hb] at h; cases h
end
theorem law_callG {P : Program} {w : World} {K : PySem.W.Frag} {mg mb : Str → Option Value} {k : Nat} {fa a : Addr} {cs : List (Addr × Addr)} {fd : FuncData} {x : Str} {sp : Sp} {s : Shared} {vs : List Value} {ns : List Int}
    (KX : K.In s.heap) (hns : s.heap.Ns mainGlobals mg) (hb : s.heap.Ns builtinsNs mb) (hbb : ∀ x : Str, x ≠ "__name__" → mb x = bootBuiltins x) (hlim : s.heap.NoLimit) (hg : s.gens = #[])
    (hT : ∀ p ∈ cs, s.heap.get? p.2 = some emptyTb) (nT : ∀ p ∈ cs, K.lookup p.2 = none) (hC : ∀ p ∈ cs, PySem.W.CodeHd s.heap p.1 p.2)
    (hbm : ∃ (bm : Addr) (ob : Obj), mg "__builtins__" = some (.ref bm) ∧ bm ≠ builtinsNs ∧ s.heap.get? bm = some ob ∧ ob.cls = .type "module" ∧ ob.dict = some builtinsNs ∧ ob.data = .plain)
    (ha : s.heap.get? a = some (scriptOb vs)) (hi : IntsAre vs ns) (hl : ns.length ≤ sizeLine) (hr : Room k callerA)
    (F : ∀ base : Heap, K.In base → base.Ns mainGlobals mg → (∀ p ∈ cs, LamX.TabB base mg p.1 p.2) → RunG P w K mg base (L2.CX P w) k fa fd [x] sp) (hbind : ∀ (s : Shared) (u : Value), BindsTo s fd ⟨[u], []⟩ [(x, u)])
    (hsp : ∀ H : Hp, (∀ p ∈ cs, H p.2 = some (.tbl #[])) → SqL K H a (ns.map V.int) → sp [.ref a] H (fun v _ => v = .bl true) fun _ _ _ => False) :
    codeAny (model P w) callerA (.call (.ref fa) ⟨[.ref a], []⟩) (fun r s' => r = .ok (.ret (.bool true)) ∧ OldK s.heap s'.heap ∧ s'.os = s.os ∧ AllBare s'.gens) s := by
  generalize hTd : cs.map (·.2) = T
  have inT : ∀ p ∈ cs, p.2 ∈ T := fun p hp => hTd ▸ List.mem_map_of_mem hp
  have ofT : ∀ b ∈ T, ∃ p ∈ cs, p.2 = b := fun b hb => List.mem_map.mp (hTd ▸ hb)
  have tabAt : ∀ b ∈ T, s.heap.get? b = some emptyTb := fun b hb => let ⟨p, hp, e⟩ := ofT b hb; e ▸ hT p hp
  have tabK : ∀ b ∈ T, K.lookup b = none := fun b hb => let ⟨p, hp, e⟩ := ofT b hb; e ▸ nT p hp
  have aNot : a ∉ T := fun z => by
    have q := (tabAt a z).symm.trans ha
    injection q with q
    injection q with _ _ q
    cases q
  have nums : Vals (ns.map V.int) vs := vals_ints hi
  generalize hH : callHp K T a vs ns = H
  have split : ∀ {b : Addr} {o : HO}, H b = some o → (b ∈ T ∧ o = .tbl #[]) ∨ (b = a ∧ K.lookup a = none ∧ o = .frz (scriptOb vs) (.lst (ns.map V.int))) := fun h => callHp_some (hH ▸ h)
  have HT : ∀ b ∈ T, H b = some (.tbl #[]) := fun b hb => by rw [← hH]; exact if_pos hb
  have ok : HOk P w H s.heap := fun b o h => by
    rcases split h with ⟨hb, rfl⟩ | ⟨rfl, _, rfl⟩
    · exact tabAt b hb
    · exact ⟨ha, by rw [List.length_map]; exact hl, vs, _, nums, ha⟩
  -- what is neither a table nor a list lies in the base
  have seen : ∀ {b : Addr} {o : Obj}, s.heap.get? b = some o → (o.data ≠ .fields #[]) → (∀ v n, o.data ≠ .seq v n) → (hidT s.heap H).get? b = some o := fun {b o} e n1 n2 => hidT_get e (by
    cases q : H b with
    | none => rfl
    | some u =>
      rcases split q with ⟨hb, _⟩ | ⟨rfl, _, _⟩
      · have z := (tabAt b hb).symm.trans e
        injection z with z
        exact absurd (by rw [← z]) n1
      · have z := ha.symm.trans e
        injection z with z
        exact absurd (by rw [← z]) (n2 vs.toArray _))
  have seenD : ∀ {b : Addr} {m : Str → Option Value}, s.heap.Ns b m → (hidT s.heap H).Ns b m := fun ⟨o, es, ep, e, d, r⟩ => ⟨o, es, ep, seen e (by rw [d]; intro z; cases z) (by rw [d]; intro v n z; cases z), d, r⟩
  have inK : K.In (hidT s.heap H) := fun b o e => hidT_get (KX b o e) (by
    cases q : H b with
    | none => rfl
    | some u =>
      rcases split q with ⟨hb, _⟩ | ⟨rfl, hk, _⟩
      · rw [tabK b hb] at e; cases e
      · rw [hk] at e; cases e)
  have md : L2.Mod K mg (hidT s.heap H) := ⟨inK, seenD hns, ⟨mb, seenD hb, hbb⟩, hlim.imp fun mc z => ⟨seenD z.1, z.2⟩⟩
  have tabs : ∀ p ∈ cs, LamX.TabB (hidT s.heap H) mg p.1 p.2 := fun p hp => by
    obtain ⟨o, us, file, tf, flags, tg, inF, text, tt, c1, c2, c3, c4, rest⟩ := hC p hp
    obtain ⟨bm, ob, b1, b2, b3, b4, b5, b6⟩ := hbm
    obtain ⟨og, es, ep, g1, g2, _⟩ := hns
    have us0 : us ≠ #[] := fun z => by rw [z] at c4; simp at c4
    refine ⟨⟨o, us, file, tf, flags, tg, inF, text, tt, seen c1 (by rw [c3]; intro z; exact us0 (by injection z)) (by rw [c3]; intro v n z; cases z), c2, c3, c4, rest⟩, ⟨bm, ob, b1, b2, fun z => ?_, fun z => ?_, seen b3 (by rw [b6]; intro z; cases z) (by rw [b6]; intro v n z; cases z), b4, b5, b6⟩, fun z => ?_⟩
    · rw [z, g1] at b3
      injection b3 with b3
      rw [b3, b6] at g2
      cases g2
    · have q := b3.symm.trans (z ▸ hT p hp)
      injection q with q
      rw [q] at b6
      cases b6
    · have q := g1.symm.trans (z ▸ hT p hp)
      injection q with q
      rw [q] at g2
      cases g2
  have scr : SqL K H a (ns.map V.int) := by
    cases hk : K.lookup a with
    | none => exact .inl (.inr ⟨scriptOb vs, by rw [← hH]; exact (if_neg aNot).trans (if_pos ⟨rfl, hk⟩)⟩)
    | some o =>
      have e : o = scriptOb vs := Option.some.inj ((KX a o hk).symm.trans ha)
      subst e
      exact .inr ⟨_, vs.toArray, _, hk, rfl, rfl, rfl, by rw [List.size_toArray, hi.length]; exact hl, by simpa using nums⟩
  have env : Env0 P w K mg (hidT s.heap H) callerA [] s H := ⟨rfl, md, fun b o e => of_hidT e, Nat.le_of_eq (hidT_size _ _), trivial, fun b z => (List.not_mem_nil z).elim, ok, .of_eq hg⟩
  refine codeAny_mono (F _ inK (seenD hns) tabs s H ⟨[.ref a], []⟩ [.ref a] [.ref a] _ _ hr env (hbind s (.ref a)) (.cons rfl .nil) (hsp H (fun p hp => HT _ (inT p hp)) scr)) fun r s' fin => ?_
  rcases r with e | fl
  · exact (Tn.cx_none fin).elim
  cases fl
  case next => exact False.elim fin
  case brk => exact False.elim fin
  case cont => exact False.elim fin
  case ret u =>
    obtain ⟨v, H', sos, bare, un, ok', rv, q⟩ := fin
    have q : v = .bl true := q
    subst q
    have eu : u = Value.bool true := rv
    subst eu
    have same : ∀ b o, b ∉ T → s.heap.get? b = some o → s'.heap.get? b = some o := fun b o nb e => by
      cases z : H b with
      | none => exact un.keep b o e z List.not_mem_nil List.not_mem_nil
      | some u =>
        rcases split z with ⟨hb, _⟩ | ⟨rfl, _, rfl⟩
        · exact absurd hb nb
        · rw [← Option.some.inj (ha.symm.trans e)]
          exact (ok' _ _ (un.frzs _ _ _ z)).1
    have grown : ∀ b ∈ T, ∃ more : Array Value, s'.heap.get? b = some { cls := .none, data := .fields more } := fun b hb => by
      obtain ⟨more, z⟩ := un.tbls b #[] (HT b hb)
      exact ⟨_, ok' b _ z⟩
    refine ⟨rfl, ⟨fun b o e => ?_, fun b o e => ?_⟩, sos, bare⟩
    · by_cases hb : b ∈ T
      · obtain ⟨p, hp, ep⟩ := ofT b hb
        obtain ⟨more, z⟩ := grown b hb
        have eo := Option.some.inj (e.symm.trans (tabAt b hb))
        subst eo
        refine .inr (.inl ⟨?_, rfl, #[], more, rfl, by rw [Array.empty_append]; exact z⟩)
        have tb := ((hC p hp).tab (hT p hp)).isCodeTable
        rw [ep] at tb
        exact tb
      · exact .inl (same b o hb e)
    · by_cases hb : b ∈ T
      · obtain ⟨more, z⟩ := grown b hb; exact ⟨_, z⟩
      · exact ⟨o, same b o hb e⟩
/-- what is known of the law's def at the head's heap -/
def LawAtG (l : PySem.W.OpenLaw) (w : World) (K : PySem.W.Frag) (k n : Nat) (x : Str) (mg : Str → Option Value) (fa : Addr) (h : Heap) : Prop :=
  ∃ (fd : FuncData) (cs : List (Addr × Addr)) (sp : Sp), (∀ p ∈ cs, h.get? p.2 = some emptyTb) ∧ (∀ p ∈ cs, K.lookup p.2 = none) ∧ (∀ p ∈ cs, PySem.W.CodeHd h p.1 p.2) ∧ (∀ (s : Shared) (u : Value), BindsTo s fd ⟨[u], []⟩ [(x, u)]) ∧
    (∀ (H : Hp) (a : Addr) (ns : List Int), ns.length ≤ n → (∀ z ∈ ns, Builtin.Int.intBits z ≤ 1048576) → (∀ p ∈ cs, H p.2 = some (.tbl #[])) → SqL K H a (ns.map V.int) → sp [.ref a] H (fun v _ => v = .bl true) fun _ _ _ => False) ∧
    ∀ base : Heap, K.In base → base.Ns mainGlobals mg → (∀ p ∈ cs, LamX.TabB base mg p.1 p.2) → RunG l.prog w K mg base (L2.CX l.prog w) k fa fd [x] sp
theorem walk_ofG {l : PySem.W.OpenLaw} {n k : Nat} {q : Program} {loose : List Str} {XP : (Str → Option Value) → Heap → Prop} {YP : World → Heap → Prop} {d : DefRec} {K : Params → PySem.W.Frag} {x : Str}
    (hn : l.most = some n) (hn2 : n ≤ sizeLine) (hdf : d.params.defaults = []) (hr : Room k callerA) (hY : ∀ (w : World) (h : Heap), YP w h → (K w.params).In h)
    (F : ∀ (w : World) (mg : Str → Option Value) (fa : Addr) (h : Heap), YP w h → (K w.params).In h → h.Ns mainGlobals mg → mg d.name = some (.ref fa) → LawAtG l w (K w.params) k n x mg fa h) :
    PySem.W.WalkO q loose XP YP l.row.toRowW d [] (fun f vs => PySem.call f vs) := by
  refine Att.attach_callB hn hdf ?_
  intro w s₀ s mg mb fa o pm cd doc a vs ns G Y _ _ _ mf ha hi hlen hbits gens
  obtain ⟨fd, cs, sp, t1, t2, t3, hb, hsp, hF⟩ := F w mg fa _ Y (hY w _ Y) G.T.g mf
  exact law_callG (hY w _ Y) G.T.g G.T.b G.T.builtins G.T.nolimit gens t1 t2 t3 G.T.bmain ha hi (Nat.le_trans hlen hn2) hr hF hb fun H hH hS => hsp H a ns hlen hbits hH hS
theorem lawAtG_of [TB] {l : PySem.W.OpenLaw} {w : World} {K : PySem.W.Frag} {k n : Nat} {x : Str} {mg : Str → Option Value} {fa : Addr} {h : Heap} {fd : FuncData} {F : Fn} (cs : List (Addr × Addr)) (hT : ∀ p ∈ cs, h.get? p.2 = some emptyTb) (nT : ∀ p ∈ cs, K.lookup p.2 = none)
    (hC : ∀ p ∈ cs, PySem.W.CodeHd h p.1 p.2) (hb : ∀ (s : Shared) (u : Value), BindsTo s fd ⟨[u], []⟩ [(x, u)]) (htb : ∀ q ∈ TB.tb, ∃ p ∈ cs, p.2 = q.1)
    (hF : ∀ ns : List Int, ns.length ≤ n → (∀ z ∈ ns, Builtin.Int.intBits z ≤ 1048576) → ∃ S', F [.sc (.list (ns.map .int))] [] = some (.ok (.sh (.bool true)) S'))
    (ok : ∀ base : Heap, K.In base → base.Ns mainGlobals mg → (∀ p ∈ cs, LamX.TabB base mg p.1 p.2) → RunG l.prog w K mg base (L2.CX l.prog w) k fa fd [x] (spD K mg F)) : LawAtG l w K k n x mg fa h :=
  ⟨fd, cs, spD K mg F, hT, nT, hC, hb, fun H a ns hl hbits ht hS => law_sp (fun q hq => by
    obtain ⟨p, hp, e⟩ := htb q hq
    exact .nil (by rw [← e]; exact ht p hp)) hS (hF ns hl hbits), ok⟩
end Tn
end

section
set_option Elab.async false
set_option linter.all false
set_option maxRecDepth 100000
set_option maxHeartbeats 1000000
/-! zip, ranges downward, three names at once of which the last is a new list -/
namespace Tn
open PySem PySem.Spec PyProof.Rows L2
/-- both lists, or both tuples -/
def iZipS (a b : XE) : XL := fun ε => bnd (a ε) fun x => bnd (b ε) fun y => match x, y with
  | .list xs, .list ys => ret (zipL xs ys)
  | .tuple xs, .tuple ys => ret (zipL xs ys)
  | _, _ => stk
/-- range(a, b, -1) -/
def iRm (a b c : XE) : XL := fun ε => bnd (a ε) fun x => bnd (b ε) fun y => bnd (c ε) fun z => match x, y, z with
  | .int i, .int j, .int k => if decide (i - j ≤ big) && decide (-(2 ^ 60) < i) && decide (i < 2 ^ 60) && decide (-(2 ^ 60) < j) && decide (j < 2 ^ 60) && decide (k = -1) then ret (rngD i (-1) (i - j).toNat) else stk
  | _, _, _ => stk
theorem zipL_get : ∀ (xs ys : List D) (i : Nat) {d : D}, (zipL xs ys)[i]? = some d → ∃ x y, xs[i]? = some x ∧ ys[i]? = some y ∧ d = .tuple [x, y]
  | [], _, i, d, h => by simp [zipL] at h
  | _ :: _, [], i, d, h => by simp [zipL] at h
  | x :: xs, y :: ys, 0, d, h => by
    simp [zipL] at h
    exact ⟨x, y, rfl, rfl, h.symm⟩
  | x :: xs, y :: ys, i + 1, d, h => zipL_get xs ys i (d := d) h
theorem zipL_len : ∀ {xs ys : List D}, (zipL xs ys).length = min xs.length ys.length
  | [], ys => by simp [zipL]
  | _ :: _, [] => by simp [zipL]
  | x :: xs, y :: ys => by simp [zipL, zipL_len]
section
variable [TB] {X : Cx} {W : WX} {a b c : Expr} {fa fb fc : XE} {pos : Pos} {tg : Expr}
theorem yld_zip {K : PySem.W.Frag} {w : Wd} {H : Hp} {p q : Addr} {xs ys : List V} {ds es : List D} (hp : H p = some (.lst xs)) (hq : H q = some (.lst ys)) (np : ¬ w.mu p) (nq : ¬ w.mu q) (k : Dvs K H w.mu xs ds) (k2 : Dvs K H w.mu ys es) (hl : xs.length ≤ sizeLine) : Yld K (Itz K p q) w H (zipL ds es) := by
  refine ⟨by rw [zipL_len, ← k.len]; omega, fun i w2 H2 x m => ?_⟩
  have hp2 := x.keep p _ np hp nt_lst
  have hq2 := x.keep q _ nq hq nt_lst
  refine ⟨fun d hd => ?_, fun hi => ⟨xs, ys, .of hp2, .of hq2, ?_⟩⟩
  · obtain ⟨d1, d2, g1, g2, rfl⟩ := zipL_get _ _ _ hd
    obtain ⟨v1, hv1, dv1⟩ := k.get g1
    obtain ⟨v2, hv2, dv2⟩ := k2.get g2
    refine ⟨⟨xs, ys, v1, v2, .of hp2, .of hq2, hv1, hv2⟩, fun y H3 ⟨T, x1, y1, e1, e2, e3, e4, e5⟩ => ?_⟩
    subst e1 e3
    have z1 := e4 xs (.of hp2)
    have z2 := e5 ys (.of hq2)
    rw [hv1] at z1; cases z1
    rw [hv2] at z2; cases z2
    exact ⟨Grow.upd e2, new_tup (fun a z => (m a z).ne) e2 (.cons (dv1.exw x) (.cons (dv2.exw x) .nil))⟩
  · rw [zipL_len] at hi
    rw [k.len, k2.len]; omega
theorem yld_zipT {K : PySem.W.Frag} {w : Wd} {H : Hp} {p q : Addr} {xs ys : List V} {ds es : List D} (hp : (H p = some (.tup xs) ∧ ¬ w.mu p) ∨ SqT K NoH p xs) (hq : (H q = some (.tup ys) ∧ ¬ w.mu q) ∨ SqT K NoH q ys) (k : Dvs K H w.mu xs ds) (k2 : Dvs K H w.mu ys es) (hl : xs.length ≤ sizeLine) : Yld K (RZ.ItzT K p q) w H (zipL ds es) := by
  refine ⟨by rw [zipL_len, ← k.len]; omega, fun i w2 H2 x m => ?_⟩
  have hp2 : SqT K H2 p xs := by
    rcases hp with ⟨hp, n⟩ | hp
    · exact .of (x.keep p _ n hp nt_tup)
    · exact SqT.ofK hp
  have hq2 : SqT K H2 q ys := by
    rcases hq with ⟨hq, n⟩ | hq
    · exact .of (x.keep q _ n hq nt_tup)
    · exact SqT.ofK hq
  refine ⟨fun d hd => ?_, fun hi => ⟨xs, ys, hp2, hq2, ?_⟩⟩
  · obtain ⟨d1, d2, g1, g2, rfl⟩ := zipL_get _ _ _ hd
    obtain ⟨v1, hv1, dv1⟩ := k.get g1
    obtain ⟨v2, hv2, dv2⟩ := k2.get g2
    refine ⟨⟨xs, ys, v1, v2, hp2, hq2, hv1, hv2⟩, fun y H3 ⟨T, x1, y1, e1, e2, e3, e4, e5⟩ => ?_⟩
    subst e1 e3
    have z1 := e4 xs hp2
    have z2 := e5 ys hq2
    rw [hv1] at z1; cases z1
    rw [hv2] at z2; cases z2
    exact ⟨Grow.upd e2, new_tup (fun a z => (m a z).ne) e2 (.cons (dv1.exw x) (.cons (dv2.exw x) .nil))⟩
  · rw [zipL_len] at hi
    rw [k.len, k2.len]; omega
theorem dv_tupS {K : PySem.W.Frag} {H : Hp} {mu : Addr → Prop} {v : V} {ds : List D} (h : Dv K H mu v (.tuple ds)) : ∃ p xs, v = .ref p ∧ SqT K H p xs ∧ Dvs K H mu xs ds ∧ ((H p = some (.tup xs) ∧ ¬ mu p) ∨ SqT K NoH p xs) := by
  cases h with
  | tup h1 h2 h3 => exact ⟨_, _, rfl, .of h1, h3, .inl ⟨h1, h2⟩⟩
  | tupK h1 h3 => exact ⟨_, _, rfl, SqT.ofK h1, h3, .inr h1⟩
theorem di_zip {p tpos : Pos} {elts : List Expr} {kk : Nat} (hg : Gl X "zip") (hm : X.mg "zip" = none) (ha : DE X W a fa) (hb : DE X W b fb)
    (hs : starEach [a, b] X.env = (false, eval a X.env) :: starEach [b] X.env := by rfl) (hs2 : starEach [b] X.env = (false, eval b X.env) :: starEach [] X.env := by rfl) (hpl : (backTo pos (starEach [b] X.env)).any (·.1) = false := by rfl) : DI X W (.Tuple elts kk tpos) (.Call (.Name "zip" p) [a, b] [] pos) (iZipS fa fb) := by
  refine ⟨pi_imp (RZ.pi_zipA hg hm (pa_cons ha.pe (pa_cons hb.pe pa_nil hs2) hs) hs hpl) fun pins s σ H R I ⟨w, ε, S, r, o⟩ => ?_⟩
  refine ⟨fun J H2 => ∃ (w2 : Wd) (p q : Addr) (xs ys : List V) (ds es : List D), Dvs X.K H2 w2.mu xs ds ∧ Dvs X.K H2 w2.mu ys es ∧
      ((J = Itz X.K p q ∧ H2 p = some (.lst xs) ∧ H2 q = some (.lst ys) ∧ ¬ w2.mu p ∧ ¬ w2.mu q) ∨ (J = RZ.ItzT X.K p q ∧ SqT X.K H2 p xs ∧ ((H2 p = some (.tup xs) ∧ ¬ w2.mu p) ∨ SqT X.K NoH p xs) ∧ ((H2 q = some (.tup ys) ∧ ¬ w2.mu q) ∨ SqT X.K NoH q ys))) ∧ ∀ J, Yld X.K J w2 H2 (zipL ds es) → R J H2, ?_, ?_⟩
  · refine ⟨w, ε, S, r, (OutM.bnd o).imp fun d io1 S1 H1 r1 x1 o1 v dv => ⟨w.at io1, ε, S1, r1, (OutM.bnd o1).imp fun d2 io2 S2 H2 r2 x2 o2 v2 dv2 => ?_⟩⟩
    have dv1 := dv.exx x2
    cases d with
    | list ds =>
      cases d2 with
      | list es =>
        have k := (OutM.ret o2 r2 : ∀ J, Yld X.K J ((w.at io1).at io2) H2 (zipL ds es) → R J H2)
        cases dv1 with
        | lst h1 h2 h3 =>
          cases dv2 with
          | lst g1 g2 g3 => exact ⟨_, _, _, _, rfl, .inl ⟨.of h1, .of g1, (w.at io1).at io2, _, _, _, _, ds, es, h3, g3, .inl ⟨rfl, h1, g1, h2, g2⟩, k⟩⟩
      | _ => exact (show False from o2).elim
    | tuple ds =>
      cases d2 with
      | tuple es =>
        have k := (OutM.ret o2 r2 : ∀ J, Yld X.K J ((w.at io1).at io2) H2 (zipL ds es) → R J H2)
        obtain ⟨p1, xs, rfl, t1, k1, q1⟩ := dv_tupS dv1
        obtain ⟨p2, ys, rfl, t2, k2, q2⟩ := dv_tupS dv2
        exact ⟨p1, p2, xs, ys, rfl, .inr ⟨t1, t2, (w.at io1).at io2, p1, p2, xs, ys, ds, es, k1, k2, .inr ⟨rfl, t1, q1, q2⟩, k⟩⟩
      | _ => exact (show False from o2).elim
    | _ => cases d2 <;> exact (show False from o2).elim
  · rintro J H2 s2 I2 ⟨w2, p1, p2, xs, ys, ds, es, k1, k2, h | h, q⟩
    · obtain ⟨rfl, h1, h2, h3, h4⟩ := h
      obtain ⟨_, _, _, hl⟩ := I2.list (.of h1)
      exact q _ (yld_zip h1 h2 h3 h4 k1 k2 hl)
    · obtain ⟨rfl, t1, h1, h2⟩ := h
      obtain ⟨_, _, _, hl⟩ := I2.tuple t1
      exact q _ (yld_zipT h1 h2 k1 k2 hl)
theorem rngD_gt {lo c : Int} {n i : Nat} {d : D} (h : (rngD lo c n)[i]? = some d) : i < n ∧ d = .int (lo + i * c) := by
  unfold rngD at h
  rw [List.getElem?_map] at h
  by_cases hi : i < n
  · rw [List.getElem?_range hi] at h
    cases h; exact ⟨hi, rfl⟩
  · rw [List.getElem?_eq_none (by simpa using hi)] at h; cases h
theorem rngD_ln (lo c : Int) (n : Nat) : (rngD lo c n).length = n := by unfold rngD; simp
theorem yld_rngD {K : PySem.W.Frag} {w : Wd} {H : Hp} {lo c : Int} {n : Nat} (hn : n ≤ sizeLine) : Yld K (Itc lo c n) w H (rngD lo c n) := by
  refine ⟨by rw [rngD_ln]; exact hn, fun i w2 H2 x m => ⟨fun d hd => ?_, fun hi => by rw [rngD_ln] at hi; exact hi⟩⟩
  obtain ⟨h1, rfl⟩ := rngD_gt hd
  refine ⟨h1, fun y H3 ⟨e1, e2⟩ => ?_⟩
  subst e1 e2
  exact ⟨Grow.refl _, .int _⟩
theorem di_rm {p : Pos} (hg : Gl X "range") (hm : X.mg "range" = none) (ha : DE X W a fa) (hb : DE X W b fb) (hc : DE X W c fc)
    (hs : starEach [a, b, c] X.env = (false, eval a X.env) :: starEach [b, c] X.env := by rfl) (hs2 : starEach [b, c] X.env = (false, eval b X.env) :: starEach [c] X.env := by rfl) (hs3 : starEach [c] X.env = (false, eval c X.env) :: starEach [] X.env := by rfl) (hpl : (backTo pos (starEach [b, c] X.env)).any (·.1) = false := by rfl) :
    DI X W tg (.Call (.Name "range" p) [a, b, c] [] pos) (iRm fa fb fc) := by
  refine ⟨pi_imp (pi_range3 hg hm (pa_cons ha.pe (pa_cons hb.pe (pa_cons hc.pe pa_nil hs3) hs2) hs) hs hpl) fun pins s σ H R I ⟨w, ε, S, r, o⟩ => ⟨R, ?_, fun _ _ _ _ q => q⟩⟩
  refine ⟨w, ε, S, r, (OutM.bnd o).imp fun d io1 S1 H1 r1 x1 o1 v dv => ⟨w.at io1, ε, S1, r1, (OutM.bnd o1).imp fun d2 io2 S2 H2 r2 x2 o2 v2 dv2 => ⟨(w.at io1).at io2, ε, S2, r2, (OutM.bnd o2).imp fun d3 io3 S3 H3 r3 x3 o3 v3 dv3 => ?_⟩⟩⟩
  cases d with
  | int i =>
    cases d2 with
    | int j =>
      cases d3 with
      | int k =>
        obtain ⟨hz, o4⟩ := o3.ite
        clear o3
        simp only [Bool.and_eq_true, decide_eq_true_eq] at hz
        cases dv
        cases dv2
        cases dv3
        have hb : (big : Int) = 16777216 := rfl
        obtain ⟨hz, rfl⟩ := hz
        refine ⟨i, j, -1, (i - j).toNat, rfl, .neg (by omega) (by omega) (by omega) (by omega), ?_⟩
        have z := OutM.ret o4 r3
        refine z _ (yld_rngD ?_)
        rw [← big_eq]; omega
      | _ => exact (show False from o3).elim
    | _ => cases d3 <;> exact (show False from o3).elim
  | _ => cases d2 <;> cases d3 <;> exact (show False from o3).elim
end
/-- a, b, c = e, f, [..] -/
def sPar3n (i j k : Nat) (p q : XE) (r : XL) : XS := fun ε => if i < ε.length ∧ j < ε.length ∧ k < ε.length then bnd (p ε) fun a => bnd (q ε) fun b => bnd (r ε) fun c => ret (.nx (((ε.set i (.sh a)).set j (.sh b)).set k (.ow (.list c)))) else stk
theorem ds_par3n [TB] {X : Cx} {W : WX} {i j l : Nat} {x y z : Str} {a b c : Expr} {fa fb : XE} {fc : XL} {px py pz pt pos : Pos} {kt k2 : Nat} {pt2 : Pos} (hc : X.calm = true) (hN : X.N.Nodup) (hi : X.N[i]? = some x) (hj : X.N[j]? = some y) (hl : X.N[l]? = some z) (hij : i ≠ j) (hil : i ≠ l) (hjl : j ≠ l)
    (hx : X.env.scope.names.lookup x = some .local) (hy : X.env.scope.names.lookup y = some .local) (hz : X.env.scope.names.lookup z = some .local) (ha : DE X W a fa) (hb : DE X W b fb) (hcc : DL X W c fc)
    (hw : swappedStores [.Tuple [.Name x px, .Name y py, .Name z pz] kt pt] (.Tuple [a, b, c] k2 pt2) X.env = pure (some [x, y, z]))
    (hs : swapsWithSole [.Tuple [.Name x px, .Name y py, .Name z pz] kt pt] (.Tuple [a, b, c] k2 pt2) pos.line X.env = pure false := by rfl)
    (h1 : starEach [a, b, c] X.env = (false, eval a X.env) :: starEach [b, c] X.env := by rfl) (h2 : starEach [b, c] X.env = (false, eval b X.env) :: starEach [c] X.env := by rfl) (h3 : starEach [c] X.env = (false, eval c X.env) :: starEach [] X.env := by rfl) :
    DS X W (.Assign [.Tuple [.Name x px, .Name y py, .Name z pz] kt pt] (.Tuple [a, b, c] k2 pt2) pos) (sPar3n i j l fa fb fc) := by
  refine ⟨(ps_par3 hc hN hi hj hl hij hil hjl hx hy hz (pa_cons ha.pe (pa_cons hb.pe (pa_cons hcc.pe pa_nil h3) h2) h1) hw hs).weak fun D0 σ H ⟨w, ε, S, r, o⟩ => ?_⟩
  unfold sPar3n at o
  obtain ⟨hlt, o⟩ := o.ite
  refine ⟨w, ε, S, r, (OutS.exp o).imp fun d io1 S1 H1 r1 x1 o1 v dv => ⟨w.at io1, ε, S1, r1, (OutS.exp o1).imp fun d2 io2 S2 H2 r2 x2 o2 v2 dv2 => ⟨w.at io2, ε, S2, r2, (OutS.exp o2).imp fun ds io3 S3 H3 r3 x3 o3 q0 us hq hu => ⟨v, v2, _, rfl, ?_⟩⟩⟩⟩
  have e1 := (dv.exx x2).exx x3
  have e2 := dv2.exx x3
  have r4 := (r3.keepSh e1 i).keepSh (Dv.mono (fun _ _ _ q _ => q) (fun _ _ z => Wd.clr_mu z) _ _ e2) j
  obtain ⟨r5, x5⟩ := r4.ownS hq (Dvs.mono (fun _ _ _ q _ => q) (fun _ _ z => Wd.clr_mu (Wd.clr_mu z)) _ _ hu) l (by rw [List.length_set, List.length_set]; exact hlt.2.2)
  exact OutS.nx o3 r5 (((Ext.clr _ _ _).trans (Ext.clr _ _ _)).trans x5) rfl
end Tn
end

section
set_option Elab.async false
set_option linter.all false
set_option maxRecDepth 100000
set_option maxHeartbeats 1000000
/-! constants of the module: tuples, nested -/
namespace Tn
open PySem PySem.Spec PyProof.Rows L2
mutual
/-- what a value of the head shows as plain data -/
def datIn (K : PySem.W.Frag) : Nat → Value → Option D
  | 0, _ => none
  | _ + 1, .none => some .none
  | _ + 1, .bool b => some (.bool b)
  | _ + 1, .int i _ => some (.int i)
  | _ + 1, .str s _ => if PyData.strOk s = true then some (.str s) else none
  | n + 1, .ref a => match K.lookup a with
    | some o => match o.data with
      | .seq its _ => if o.cls = .type "tuple" ∧ its.size ≤ sizeLine then (datsIn K n its.toList).map .tuple else none
      | _ => none
    | none => none
  | _ + 1, _ => none
def datsIn (K : PySem.W.Frag) : Nat → List Value → Option (List D)
  | 0, _ => none
  | _ + 1, [] => some []
  | n + 1, v :: vs => match datIn K n v with
    | some d => (datsIn K n vs).map (d :: ·)
    | none => none
end
theorem datIn_ok {K : PySem.W.Frag} : ∀ n : Nat, (∀ (u : Value) (d : D), datIn K n u = some d → ∃ v, RelV v u ∧ ∀ H mu, Dv K H mu v d) ∧ (∀ (us : List Value) (ds : List D), datsIn K n us = some ds → ∃ vs, Vals vs us ∧ ∀ H mu, Dvs K H mu vs ds)
  | 0 => ⟨fun u d h => by simp [datIn] at h, fun us ds h => by simp [datsIn] at h⟩
  | n + 1 => by
    obtain ⟨ih1, ih2⟩ := datIn_ok (K := K) n
    refine ⟨fun u d h => ?_, fun us ds h => ?_⟩
    · cases u with
      | none => rw [datIn] at h; cases h; exact ⟨.non, rfl, fun _ _ => .non⟩
      | bool b => rw [datIn] at h; cases h; exact ⟨.bl b, rfl, fun _ _ => .bl b⟩
      | int i t => rw [datIn] at h; cases h; exact ⟨.int i, ⟨t, rfl⟩, fun _ _ => .int i⟩
      | str s t =>
        rw [datIn] at h
        split at h
        · rename_i hs; cases h; exact ⟨.str s, ⟨t, rfl⟩, fun _ _ => .str s hs⟩
        · cases h
      | ref a =>
        rw [datIn] at h
        split at h
        · rename_i o ho
          split at h
          · rename_i its m hd
            split at h
            · rename_i hc
              cases e : datsIn K n its.toList with
              | none => rw [e] at h; cases h
              | some ds =>
                rw [e] at h
                cases h
                obtain ⟨vs, r, k⟩ := ih2 _ _ e
                exact ⟨.ref a, rfl, fun H mu => .tupK (.inr ⟨o, its, m, ho, hc.1, hd, hc.2, r⟩) (k H mu)⟩
            · cases h
          · cases h
        · cases h
      | _ => simp [datIn] at h
    · cases us with
      | nil => rw [datsIn] at h; cases h; exact ⟨[], .nil, fun _ _ => .nil⟩
      | cons u us =>
        rw [datsIn] at h
        split at h
        · rename_i d hd
          cases e : datsIn K n us with
          | none => rw [e] at h; cases h
          | some ds =>
            rw [e] at h
            cases h
            obtain ⟨v, r1, k1⟩ := ih1 _ _ hd
            obtain ⟨vs, r2, k2⟩ := ih2 _ _ e
            exact ⟨v :: vs, .cons r1 r2, fun H mu => .cons (k1 H mu) (k2 H mu)⟩
        · cases h
theorem cod_dat {K : PySem.W.Frag} {h : Heap} {mg : Str → Option Value} {x : Str} {u : Value} {d : D} (X : K.In h) (G : h.Ns mainGlobals mg) (a : PySem.W.nsIn K mainGlobals x = some (some u)) (n : Nat) (hd : datIn K n u = some d) : CoD K mg x d := by
  obtain ⟨v, r, k⟩ := (datIn_ok n).1 u d hd
  exact ⟨⟨_, v, PySem.W.mg_of X G a, r, k⟩⟩
end Tn
end

section
set_option Elab.async false
set_option linter.all false
set_option maxRecDepth 100000
set_option maxHeartbeats 1000000
/-! dicts of one's own, keys whole numbers or texts -/
namespace Tn
open PySem PySem.Spec PyProof.Rows L2
def keq : D → D → Bool
  | .int i, .int j => decide (i = j)
  | .str x, .str y => decide (x = y)
  | _, _ => false
def putD (ds : List (D × D)) (k d : D) : List (D × D) := if (ds.any fun e => keq e.1 k) = true then ds.map (fun e => if keq e.1 k = true then (e.1, d) else e) else ds ++ [(k, d)]
def keyD : D → Option L2.Key
  | .int i => some (.inl i)
  | .str s => if PyData.strOk s = true then some (.inr s) else none
  | _ => none
def prsD : List D → Option (List (D × D))
  | [] => some []
  | .tuple [k, v] :: r => if (keyD k).isSome = true then (prsD r).map ((k, v) :: ·) else none
  | _ :: _ => none
def mkD (ps : List (D × D)) : List (D × D) := ps.foldl (fun acc p => putD acc p.1 p.2) []
abbrev XK' := Ev → M (List (D × D))
def kNew : XK' := fun _ => ret []
def kOf (a : XE) : XK' := fun ε => bnd (a ε) fun x => match x with
  | .list ds => lft ((prsD ds).map mkD)
  | _ => stk
def kSl (i : Nat) : XK' := fun ε => match ε[i]? with
  | some (.lk (.dict ds)) => ret ds
  | _ => stk
def intKeys : List (D × D) → Option (List Int)
  | [] => some []
  | (.int i, _) :: r => (intKeys r).map (i :: ·)
  | _ :: _ => none
def gSK (ds : List (D × D)) : Option (List D) := match intKeys ds with
  | some ks => if ks.length < 64 then some ((ks.mergeSort (fun a b => decide (a ≤ b))).map .int) else none
  | none => none
def lSK (f : XK') : XL := fun ε => bnd (f ε) fun ds => lft (gSK ds)
/-- len(d), d one's own -/
def xLenK (i : Nat) : XE := fun ε => bnd (kSl i ε) fun ds => ret (.int ds.length)
def getK (ds : List (D × D)) (k : D) : Option D := (ds.find? fun e => keq e.1 k).map (·.2)
/-- d[k], k in d, k not in d: d one's own -/
def xGetK (i : Nat) (a : XE) : XE := fun ε => bnd (kSl i ε) fun ds => bnd (a ε) fun k => lft (if (keyD k).isSome = true then getK ds k else none)
def xInK (a : XE) (i : Nat) : XE := fun ε => bnd (a ε) fun k => bnd (kSl i ε) fun ds => lft (if (keyD k).isSome = true then some (.bool (getK ds k).isSome) else none)
def xNinK (a : XE) (i : Nat) : XE := fun ε => bnd (a ε) fun k => bnd (kSl i ε) fun ds => lft (if (keyD k).isSome = true then some (.bool (!(getK ds k).isSome)) else none)
def putS (i : Nat) (ds : List (D × D)) (k d : D) : XS := fun ε => if (keyD k).isSome = true ∧ ds.length < big then ret (.nx (ε.set i (.lk (.dict (putD ds k d))))) else stk
/-- d[k] = e -/
def sPutK (i : Nat) (fk fe : XE) : XS := fun ε => bnd (fe ε) fun d => bnd (kSl i ε) fun ds => bnd (fk ε) fun k => putS i ds k d ε
/-- d[k] op= e -/
def sAugK (i : Nat) (g : D → D → Option D) (fk fe : XE) : XS := fun ε => bnd (kSl i ε) fun ds => bnd (fk ε) fun k => bnd (lft (if (keyD k).isSome = true then getK ds k else none)) fun x => bnd (fe ε) fun y => bnd (lft (g x y)) fun z => putS i ds k z ε
def sDct (i : Nat) (f : XK') : XS := fun ε => if i < ε.length then bnd (f ε) fun ds => ret (.nx (ε.set i (.lk (.dict ds)))) else stk
theorem keq_kD (a b : L2.Key) : keq (kD a) (kD b) = decide (a = b) := by
  cases a <;> cases b <;> simp [keq, kD]
section
variable {K : PySem.W.Frag} {H : Hp} {mu : Addr → Prop}
theorem kvs_any {k : L2.Key} : ∀ {kvs : List (L2.Key × V)} {ds : List (D × D)}, Kvs K H mu kvs ds → (ds.any fun e => keq e.1 (kD k)) = kvs.any fun kv => decide (kv.1 = k)
  | _, _, .nil => rfl
  | _, _, .cons h1 h2 h3 => by rw [List.any_cons, List.any_cons, kvs_any h3, keq_kD]
theorem kvs_app {k : L2.Key} {v : V} {d : D} (h1 : keyOk k = true) (h2 : Dv K H mu v d) : ∀ {kvs : List (L2.Key × V)} {ds : List (D × D)}, Kvs K H mu kvs ds → Kvs K H mu (kvs ++ [(k, v)]) (ds ++ [(kD k, d)])
  | _, _, .nil => .cons h1 h2 .nil
  | _, _, .cons a b c => .cons a b (kvs_app h1 h2 c)
theorem kvs_map {k : L2.Key} {v : V} {d : D} (h2 : Dv K H mu v d) : ∀ {kvs : List (L2.Key × V)} {ds : List (D × D)}, Kvs K H mu kvs ds → Kvs K H mu (kvs.map fun kv => if kv.1 = k then (kv.1, v) else kv) (ds.map fun e => if keq e.1 (kD k) = true then (e.1, d) else e)
  | _, _, .nil => .nil
  | _, _, .cons (k := k2) a b c => by
    rw [List.map_cons, List.map_cons]
    by_cases e : k2 = k
    · subst e
      rw [if_pos rfl, if_pos (by rw [keq_kD]; exact decide_eq_true rfl)]
      exact .cons a h2 (kvs_map h2 c)
    · rw [if_neg e, if_neg (by rw [keq_kD, decide_eq_false e]; exact Bool.false_ne_true)]
      exact .cons a b (kvs_map h2 c)
theorem kvs_put {k : L2.Key} {v : V} {d : D} {kvs : List (L2.Key × V)} {ds : List (D × D)} (h : Kvs K H mu kvs ds) (h1 : keyOk k = true) (h2 : Dv K H mu v d) : Kvs K H mu (putK kvs k v) (putD ds (kD k) d) := by
  unfold putK putD
  rw [kvs_any h]
  split
  · exact kvs_map h2 h
  · exact kvs_app h1 h2 h
theorem keyD_ok {k : D} {key : L2.Key} (h : keyD k = some key) : k = kD key ∧ keyOk key = true := by
  unfold keyD at h
  split at h
  · cases h; exact ⟨rfl, rfl⟩
  · split at h
    · rename_i hs; cases h; exact ⟨rfl, hs⟩
    · cases h
  · cases h
theorem dv_key {v : V} {key : L2.Key} (h : Dv K H mu v (kD key)) : v = kV key := by
  cases key with
  | inl i =>
    have h : Dv K H mu v (.int i) := h
    cases h; rfl
  | inr s =>
    have h : Dv K H mu v (.str s) := h
    cases h; rfl
/-- a list of pairs -/
theorem pairs_dv [TB] : ∀ {ds : List D} {xs : List V} {ps : List (D × D)}, Dvs K H mu xs ds → prsD ds = some ps → ∃ (as : List Addr) (kvs : List (L2.Key × V)), xs = as.map V.ref ∧ Paired (fun p (kv : L2.Key × V) => SqT K H p [kV kv.1, kv.2]) as kvs ∧ Kvs K H mu kvs ps
  | [], _, ps, h, e => by
    cases h
    cases e
    exact ⟨[], [], rfl, .nil, .nil⟩
  | d :: ds, _, ps, h, e => by
    cases h with
    | cons h1 h2 =>
      unfold prsD at e
      split at e
      · rename_i e0; cases e0
      · rename_i k v r e0
        cases e0
        split at e
        · rename_i hk
          obtain ⟨key, hkey⟩ := Option.isSome_iff_exists.mp hk
          obtain ⟨ek, ok⟩ := keyD_ok hkey
          cases e2 : prsD ds with
          | none => rw [e2] at e; cases e
          | some ps2 =>
            rw [e2] at e
            cases e
            obtain ⟨p, xs1, rfl, t, kx, _⟩ := dv_tupS h1
            obtain ⟨as, kvs, rfl, pr, kk⟩ := pairs_dv h2 e2
            cases kx with
            | cons a1 a2 =>
              cases a2 with
              | cons b1 b2 =>
                cases b2
                subst ek
                have := dv_key a1
                subst this
                exact ⟨p :: as, (key, _) :: kvs, rfl, .cons t pr, .cons ok b1 kk⟩
        · cases e
      · cases e
theorem kvs_merge : ∀ {more : List (L2.Key × V)} {ps : List (D × D)} {kvs : List (L2.Key × V)} {ds : List (D × D)}, Kvs K H mu more ps → Kvs K H mu kvs ds → Kvs K H mu (mergeK kvs more) (ps.foldl (fun acc p => putD acc p.1 p.2) ds)
  | _, _, _, _, .nil, h => h
  | _, _, _, _, .cons h1 h2 h3, h => by
    unfold mergeK
    rw [List.foldl_cons, List.foldl_cons]
    exact kvs_merge h3 (kvs_put h h1 h2)
theorem kvs_ints : ∀ {kvs : List (L2.Key × V)} {ds : List (D × D)} {ks : List Int}, Kvs K H mu kvs ds → intKeys ds = some ks → kvs.map (·.1) = ks.map Sum.inl
  | _, _, ks, .nil, e => by cases e; rfl
  | _, _, ks, .cons (k := k) (ds := ds) h1 h2 h3, e => by
    cases k with
    | inl i =>
      have e : (intKeys ds).map (i :: ·) = some ks := e
      cases e2 : intKeys ds with
      | none => rw [e2] at e; cases e
      | some ks2 =>
        rw [e2] at e
        cases e
        rw [List.map_cons, kvs_ints h3 e2]; rfl
    | inr s => cases e
theorem kvs_len : ∀ {kvs : List (L2.Key × V)} {ds : List (D × D)}, Kvs K H mu kvs ds → kvs.length = ds.length
  | _, _, .nil => rfl
  | _, _, .cons _ _ h => by rw [List.length_cons, List.length_cons, kvs_len h]
end
theorem sorted_uniq {ks ys : List Int} (h1 : ys.Perm ks) (h2 : ys.Pairwise (· ≤ ·)) : ys = ks.mergeSort fun a b => decide (a ≤ b) := by
  refine List.Perm.eq_of_pairwise (le := fun a b => a ≤ b) (fun a b _ _ h h' => Int.le_antisymm h h') h2 ?_ (h1.trans (List.mergeSort_perm ks _).symm)
  exact (List.pairwise_mergeSort (le := fun a b => decide (a ≤ b)) (fun a b c h h' => decide_eq_true (Int.le_trans (of_decide_eq_true h) (of_decide_eq_true h'))) (fun a b => by
    rw [Bool.or_eq_true]
    rcases Int.le_total a b with h | h
    · exact .inl (decide_eq_true h)
    · exact .inr (decide_eq_true h)) ks).imp fun h => of_decide_eq_true h
section
variable [TB]
def tK (K : PySem.W.Frag) (mg : Str → Option Value) (W : WX) (f : XK') : TE := fun σ H Q =>
  ∃ w ε S, Rp K w ε S σ H ∧ OutM K mg W w ε σ H (f ε S) fun ds io' _ H' => ∀ p kvs, H' p = none → Kvs K H' (w.at io').mu kvs ds → Q (.ref p) (upd H' p (.dK kvs))
structure DKx (X : Cx) (W : WX) (e : Expr) (f : XK') : Prop where
  pe : PE X e (tK X.K X.mg W f)
variable {X : Cx} {W : WX} {e a : Expr} {fa : XE} {f : XK'} {pos : Pos} {i : Nat} {x : Str}
theorem dk_new : DKx X W (.Dict [] [] pos) kNew := by
  refine ⟨pe_dnewK.weak fun σ H Q ⟨w, ε, S, r, o⟩ => ?_⟩
  intro p hp
  exact (o.ret r) p [] hp .nil
theorem dk_of {p : Pos} (hc : X.calm = true) (hg : Gl X "dict") (hm : X.mg "dict" = none) (ha : DE X W a fa)
    (he : starEach [a] X.env = (false, eval a X.env) :: starEach [] X.env := by rfl) : DKx X W (.Call (.Name "dict" p) [a] [] pos) (kOf fa) := by
  refine ⟨(pe_callTy (call_dictP hc) hg hm (by decide +kernel) (pa_cons ha.pe pa_nil he) (by decide) (by decide) he (by rfl)).weak fun σ H Q ⟨w, ε, S, rp, o⟩ => ?_⟩
  refine ⟨w, ε, S, rp, (OutM.bnd o).imp fun d1 io1 S1 H1 r1 x1 o1 v dv => ?_⟩
  cases d1 with
  | list ds =>
    obtain ⟨ms, e1, k⟩ := OutM.lft o1 r1
    cases e2 : prsD ds with
    | none => rw [e2] at e1; cases e1
    | some ps =>
      rw [e2] at e1
      cases e1
      cases dv with
      | lst h1 h2 h3 =>
        obtain ⟨as, kvs, rfl, pr, kk⟩ := pairs_dv h3 e2
        exact ⟨_, as, kvs, rfl, .of h1, pr, fun p hp => k H1 (Grow.refl H1) p _ hp (kvs_merge kk .nil)⟩
  | _ => exact (show False from o1).elim
section
variable {K : PySem.W.Frag} {w : Wd} {ε : Ev} {S : List D} {σ : L2.St} {H : Hp}
theorem nt_dK {kvs : List (L2.Key × V)} : Nt (.dK kvs) := fun _ h => by cases h
theorem Rp.ownD {p : Addr} {kvs : List (L2.Key × V)} {ds : List (D × D)} (r : Rp K w ε S σ H) (hp : H p = none) (hv : Kvs K H w.mu kvs ds) (i : Nat) (hi : i < ε.length) :
    Rp K (w.own i p) (ε.set i (.lk (.dict ds))) S (σ.set i (some (.ref p))) (upd H p (.dK kvs)) ∧ Ext w H (w.own i p) (upd H p (.dK kvs)) := by
  have g := Grow.upd (o := .dK kvs) hp
  have mu : ∀ a, Kn H a → (w.own i p).mu a → w.mu a := fun a ha z => by
    rcases z with (z | ⟨j, z⟩) | z
    · exact .inl (.inl z)
    · have z : (if j = i then some p else w.om j) = some a := z
      split at z
      · cases z; exact absurd ha (Kn.non hp)
      · exact .inl (.inr ⟨j, z⟩)
    · exact .inr z
  have npi : p ∉ w.io := fun z => r.new hp (.inl (.inl z))
  refine ⟨⟨r.ls, r.nd, fun j k a h1 h2 => ?_, fun j a h1 => ?_, fun a z t => ?_, fun a z => (r.zh a z).grow g, r.tt.ext g, fun n a d h1 h2 => (r.st n a d h1 h2).mono (fun a o _ q _ => g a o q) mu (g.eq (r.st n a d h1 h2).kn.ne), fun j s h1 => ?_, fun j h1 => ?_, by rw [List.length_set, List.length_set]; exact r.le⟩,
    ⟨List.prefix_rfl, fun _ h => .inl h, fun a o _ q _ => g a o q, fun a t => ?_, fun a q => ?_⟩⟩
  · have h1 : (if j = i then some p else w.om j) = some a := h1
    have h2 : (if k = i then some p else w.om k) = some a := h2
    split at h1
    · split at h2
      · omega
      · cases h1; exact absurd hp (r.tch (.inr ⟨k, h2⟩)).ne
    · split at h2
      · cases h2; exact absurd hp (r.tch (.inr ⟨j, h1⟩)).ne
      · exact r.oi j k a h1 h2
  · have h1 : (if j = i then some p else w.om j) = some a := h1
    split at h1
    · cases h1; exact npi
    · exact r.od j a h1
  · rcases t with t | ⟨j, t⟩
    · exact r.zd a z (.inl t)
    · have t : (if j = i then some p else w.om j) = some a := t
      split at t
      · cases t; exact (r.zh p z).ne hp
      · exact r.zd a z (.inr ⟨j, t⟩)
  · by_cases e : i = j
    · subst e
      rw [List.getElem?_set_self hi] at h1
      cases h1
      refine ⟨_, by rw [List.getElem?_set_self (by rw [← r.le]; exact hi)], p, by show (if i = i then some p else w.om i) = some p; simp, rfl, .inl ⟨kvs, ds, rfl, upd_same, hv.mono (fun a o _ q _ => g a o q) mu⟩⟩
    · rw [List.getElem?_set_ne e] at h1
      obtain ⟨o', h2, h3⟩ := r.sl j s h1
      refine ⟨o', by rw [List.getElem?_set_ne e]; exact h2, ?_⟩
      have e2 : (w.own i p).om j = w.om j := by
        show (if j = i then some p else w.om j) = w.om j
        rw [if_neg (fun z => e z.symm)]
      rw [e2]
      exact h3.mono (fun a o _ q _ => g a o q) mu fun a e => g.eq (r.tch (.inr ⟨j, e⟩)).ne
  · rw [List.length_set] at h1
    show (if j = i then some p else w.om j) = none
    rw [if_neg (by omega)]; exact r.so j h1
  · rcases t with t | ⟨j, t⟩
    · exact .inl (.inl t)
    · have t : (if j = i then some p else w.om j) = some a := t
      split at t
      · cases t; exact .inr (Kn.non hp)
      · exact .inl (.inr ⟨j, t⟩)
  · exact g.kn q
theorem Rp.putOk {i : Nat} {a : Addr} {d0 : D} {kvs : List (L2.Key × V)} {es : List (D × D)} (r : Rp K w ε S σ H) (e : ε[i]? = some (.lk d0)) (ha : w.om i = some a) (k : Kvs K H w.mu kvs es) : Rp K w (ε.set i (.lk (.dict es))) S σ (upd H a (.dK kvs)) where
  ls := r.ls
  nd := r.nd
  oi := r.oi
  od := r.od
  zd := r.zd
  zh := fun b z => by
    have hb : b ≠ a := fun e => by subst e; exact r.zd b z (.inr ⟨i, ha⟩)
    obtain ⟨u, q1, q2⟩ := r.zh b z
    exact ⟨u, by rw [upd_ne hb]; exact q1, q2⟩
  tt := by obtain ⟨o, hx, mo⟩ := r.tcl (.inr ⟨i, ha⟩); exact tabs_mo r.tt hx mo
  st := fun n b d h1 h2 => by
    have hb : b ≠ a := fun e => by subst e; exact r.od i b ha (List.mem_of_getElem? h1)
    exact (r.st n b d h1 h2).mono (fun c o n q _ => tc_upd (.inr ⟨i, ha⟩) n q) (fun _ _ z => z) (upd_ne hb)
  sl := fun j s h1 => by
    have hi : i < ε.length := (List.getElem?_eq_some_iff.mp e).1
    by_cases ej : i = j
    · subst ej
      rw [List.getElem?_set_self hi] at h1
      cases h1
      obtain ⟨o, h2, h3⟩ := r.sl i _ e
      obtain ⟨b, e1, e2, _⟩ := h3
      rw [ha] at e1; cases e1
      exact ⟨o, h2, a, ha, e2, .inl ⟨kvs, es, rfl, upd_same, k.mono (fun b o n q _ => tc_upd (.inr ⟨i, ha⟩) n q) (fun _ _ z => z)⟩⟩
    · rw [List.getElem?_set_ne ej] at h1
      obtain ⟨o, h2, h3⟩ := r.sl j s h1
      exact ⟨o, h2, h3.mono (fun c o n q _ => tc_upd (.inr ⟨i, ha⟩) n q) (fun _ _ z => z) fun b e2 => upd_ne fun e3 => by subst e3; exact ej (r.oi i j _ ha e2)⟩
  so := fun j h => r.so j (by rwa [List.length_set] at h)
  le := by rw [List.length_set]; exact r.le
/-- what stands in a dict slot -/
theorem kSl_at {i : Nat} {α : Type} {mg : Str → Option Value} {W : WX} {f : List (D × D) → M α} {P : α → List Addr → List D → Hp → Prop} (r : Rp K w ε S σ H) (o : OutM K mg W w ε σ H (bnd (kSl i ε) f S) P) :
    ∃ ds a kvs, ε[i]? = some (.lk (.dict ds)) ∧ w.om i = some a ∧ σ[i]? = some (some (.ref a)) ∧ H a = some (.dK kvs) ∧ Kvs K H w.mu kvs ds ∧ OutM K mg W w ε σ H (f ds S) P := by
  unfold kSl at o
  cases e : ε[i]? with
  | none => rw [e] at o; exact o.elim
  | some s =>
    rw [e] at o
    cases s with
    | lk d =>
      obtain ⟨q, h1, a, h2, rfl, ⟨kvs, ds, rfl, h3, h4⟩ | ⟨kvs, ds, rfl, h3, h4⟩⟩ := r.sl i _ e
      · exact ⟨ds, a, kvs, rfl, h2, h1, h3, h4, o⟩
      · exact o.elim
    | _ => exact o.elim
theorem kvs_get {mu : Addr → Prop} {k : L2.Key} : ∀ {kvs : List (L2.Key × V)} {ds : List (D × D)}, Kvs K H mu kvs ds → (∀ d, getK ds (kD k) = some d → ∃ v, valV kvs k = some v ∧ Dv K H mu v d) ∧ (valV kvs k).isSome = (getK ds (kD k)).isSome
  | _, _, .nil => ⟨fun d h => (by cases h), rfl⟩
  | _, _, .cons (k := k2) (v := v) (d := d) (kvs := kvs) (ds := ds) h1 h2 h3 => by
    obtain ⟨p, q⟩ := kvs_get (k := k) h3
    by_cases e : k2 = k
    · subst e
      have e1 : getK ((kD k2, d) :: ds) (kD k2) = some d := by unfold getK; rw [List.find?_cons_of_pos (by rw [keq_kD]; exact decide_eq_true rfl)]; rfl
      have e2 : valV ((k2, v) :: kvs) k2 = some v := valV_pos rfl
      exact ⟨fun d2 h => by rw [e1] at h; cases h; exact ⟨v, e2, h2⟩, by rw [e1, e2]; rfl⟩
    · have e1 : getK ((kD k2, d) :: ds) (kD k) = getK ds (kD k) := by unfold getK; rw [List.find?_cons_of_neg (by rw [keq_kD, decide_eq_false e]; exact Bool.false_ne_true)]
      have e2 : valV ((k2, v) :: kvs) k = valV kvs k := valV_neg e
      exact ⟨fun d2 h => by rw [e1] at h; obtain ⟨v2, a, b⟩ := p d2 h; exact ⟨v2, e2.trans a, b⟩, by rw [e1, e2]; exact q⟩
/-- a list or dict of one's own is as it was behind an expression -/
theorem Rp.same {ε' : Ev} {S' : List D} {σ' : L2.St} {H' : Hp} {io' : List Addr} {i : Nat} {a : Addr} {o : HO} (r : Rp K w ε S σ H) (x : Exx w H io' H') (h : w.om i = some a) (e : H a = some o) (n : Nt o) : H' a = some o :=
  x.kw a o (r.od i a h) e n
theorem Kvs.exx {kvs : List (L2.Key × V)} {ds : List (D × D)} {H' : Hp} {io' : List Addr} (h : Kvs K H w.mu kvs ds) (x : Exx w H io' H') : Kvs K H' (w.at io').mu kvs ds := h.mono x.ext.keep x.ext.mus
theorem if_some {c : Prop} [Decidable c] {α : Type} {o : Option α} {a : α} (h : (if c then o else none) = some a) : c ∧ o = some a := by
  split at h
  · rename_i hc; exact ⟨hc, h⟩
  · cases h
end
section
variable {X : Cx} {W : WX} {i : Nat} {x : Str} {e k : Expr} {fe fk : XE} {f : XK'} {pos p1 p2 p3 pos' : Pos}
theorem ds_dct (hN : X.N.Nodup) (hi : X.N[i]? = some x) (hx : Loc X.env.scope x) (he : DKx X W e f) (hs : swapsWith e (some (.Name x pos')) pos.line X.env = pure false := by rfl) (hf : X.fn x = true ∨ X.env.scope.names.lookup x = some .local := by first | exact .inl rfl | exact .inr rfl | assumption) : DS X W (.Assign [.Name x pos'] e pos) (sDct i f) := by
  refine ⟨(ps_set hN hi hx he.pe hs hf).weak fun D0 σ H ⟨w, ε, S, r, o⟩ => ?_⟩
  unfold sDct at o
  by_cases hi : i < ε.length
  · rw [if_pos hi] at o
    refine ⟨w, ε, S, r, (OutS.exp o).imp fun ds io1 S1 H1 r1 x1 o1 p kvs hp hv => ?_⟩
    obtain ⟨r2, x2⟩ := r1.ownD hp hv i hi
    exact OutS.nx o1 r2 x2 rfl
  · rw [if_neg hi] at o; exact o.elim
theorem de_getK (hu : X.A.units + 100 < cLine) (ho : PE X (.Name x p1) (tVar i)) (hk : DE X W k fk) (hs : NoSl k) : DE X W (.Subscript (.Name x p1) k pos) (xGetK i fk) := by
  refine ⟨(pe_dget (Nat.lt_of_le_of_lt (Nat.add_le_add_left (by decide) _) hu) ho hk.pe hs).weak fun σ H Q ⟨w, ε, S, r, o⟩ => ?_⟩
  obtain ⟨ds, a, kvs, h1, h2, h3, h4, h5, o⟩ := kSl_at r o
  refine ⟨_, h3, w, ε, S, r, (OutM.bnd o).imp fun d io1 S1 H1 r1 x1 o1 v dv => ?_⟩
  obtain ⟨m, e1, q⟩ := OutM.lft o1 r1
  obtain ⟨hk, e1⟩ := if_some e1
  obtain ⟨key, hkey⟩ := Option.isSome_iff_exists.mp hk
  obtain ⟨rfl, ok⟩ := keyD_ok hkey
  have := dv_key dv
  subst this
  obtain ⟨v, e2, dv2⟩ := (kvs_get (h5.exx x1)).1 m e1
  exact ⟨a, v, rfl, e2 ▸ DGet.k (r.same (ε' := ε) (S' := S) (σ' := σ) x1 h2 h4 nt_dK), q H1 (Grow.refl H1) v dv2⟩
theorem de_inK (hu : X.A.units + 100 < cLine) (hk : DE X W k fk) (ho : PE X (.Name x p1) (tVar i)) : DE X W (.Compare k [.In] [.Name x p1] pos) (xInK fk i) := by
  refine ⟨(pe_cmp (pc_din (Nat.lt_of_le_of_lt (Nat.add_le_add_left (by decide) _) hu) hk.pe ho)).weak fun σ H Q ⟨w, ε, S, r, o⟩ => ?_⟩
  refine ⟨w, ε, S, r, (OutM.bnd o).imp fun d io1 S1 H1 r1 x1 o1 v dv => ?_⟩
  obtain ⟨ds, a, kvs, h1, h2, h3, h4, h5, o1⟩ := kSl_at r1 o1
  obtain ⟨m, e1, q⟩ := OutM.lft o1 r1
  obtain ⟨hk, e1⟩ := if_some e1
  obtain ⟨key, hkey⟩ := Option.isSome_iff_exists.mp hk
  obtain ⟨rfl, ok⟩ := keyD_ok hkey
  have := dv_key dv
  subst this
  cases e1
  refine ⟨_, h3, a, _, rfl, DGet.k h4, ?_⟩
  rw [(kvs_get h5).2]
  exact q H1 (Grow.refl H1) _ (.bl _)
theorem de_ninK (hu : X.A.units + 100 < cLine) (hk : DE X W k fk) (ho : PE X (.Name x p1) (tVar i)) : DE X W (.Compare k [.NotIn] [.Name x p1] pos) (xNinK fk i) := by
  refine ⟨(pe_cmp (pc_dnotin (Nat.lt_of_le_of_lt (Nat.add_le_add_left (by decide) _) hu) hk.pe ho)).weak fun σ H Q ⟨w, ε, S, r, o⟩ => ?_⟩
  refine ⟨w, ε, S, r, (OutM.bnd o).imp fun d io1 S1 H1 r1 x1 o1 v dv => ?_⟩
  obtain ⟨ds, a, kvs, h1, h2, h3, h4, h5, o1⟩ := kSl_at r1 o1
  obtain ⟨m, e1, q⟩ := OutM.lft o1 r1
  obtain ⟨hk, e1⟩ := if_some e1
  obtain ⟨key, hkey⟩ := Option.isSome_iff_exists.mp hk
  obtain ⟨rfl, ok⟩ := keyD_ok hkey
  have := dv_key dv
  subst this
  cases e1
  refine ⟨_, h3, a, _, rfl, DGet.k h4, ?_⟩
  rw [(kvs_get h5).2]
  exact q H1 (Grow.refl H1) _ (.bl _)
theorem de_lenK {p : Pos} (hg : Gl X "len") (hm : X.mg "len" = none) (ho : PE X (.Name x p1) (tVar i))
    (he : starEach [.Name x p1] X.env = (false, eval (.Name x p1) X.env) :: starEach [] X.env := by rfl) : DE X W (.Call (.Name "len" p) [.Name x p1] [] pos) (xLenK i) := by
  refine ⟨(pe_callB call_lenD hg hm (by decide +kernel) (pa_cons ho pa_nil he) (by decide) (by decide) he (by rfl)).weak fun σ H Q ⟨w, ε, S, r, o⟩ => ?_⟩
  obtain ⟨ds, a, kvs, h1, h2, h3, h4, h5, o⟩ := kSl_at r o
  refine ⟨_, h3, a, kvs, rfl, h4, ?_⟩
  have := o.ret r (.int kvs.length) (by rw [kvs_len h5]; exact .int _)
  exact this
theorem sort_of {K : PySem.W.Frag} {mg : Str → Option Value} {w : Wd} {ε : Ev} {S : List D} {σ : L2.St} {H : Hp} {Q : VK} {a : Addr} {kvs : List (L2.Key × V)} {ds : List (D × D)} (r : Rp K w ε S σ H) (hk : Kvs K H w.mu kvs ds)
    (ha : H a = some (.dK kvs)) (o : OutM K mg W w ε σ H (lft (gSK ds) S) fun ds io' _ H' => ∀ p vs, H' p = none → Dvs K H' (w.at io').mu vs ds → Q (.ref p) (upd H' p (.lst vs))) :
    ∃ (a' : Addr) (kvs : List (L2.Key × V)) (ks : List Int), [V.ref a] = [V.ref a'] ∧ Rd H a' (.dK kvs) ∧ kvs.map (·.1) = ks.map Sum.inl ∧ ks.length < 64 ∧
      ∀ (ys : List Int) (p : Addr), ys.Perm ks → ys.Pairwise (· ≤ ·) → H p = none → Q (.ref p) (upd H p (.lst (ys.map V.int))) := by
  obtain ⟨m, e1, q⟩ := OutM.lft o r
  unfold gSK at e1
  split at e1
  · rename_i ks hks
    split at e1
    · rename_i hl
      cases e1
      refine ⟨a, kvs, ks, rfl, .of ha, kvs_ints hk hks, hl, fun ys p hp hs hpn => q H (Grow.refl H) p _ hpn ?_⟩
      rw [sorted_uniq hp hs]
      generalize ks.mergeSort (fun a b => decide (a ≤ b)) = zs
      induction zs with
      | nil => exact .nil
      | cons z zs ih => exact .cons (.int z) ih
    · cases e1
  · cases e1
theorem dl_sortK {p : Pos} (hc : X.calm = true) (hg : Gl X "sorted") (hm : X.mg "sorted" = none) (ho : PE X (.Name x p1) (tVar i))
    (he : starEach [.Name x p1] X.env = (false, eval (.Name x p1) X.env) :: starEach [] X.env := by rfl) : DL X W (.Call (.Name "sorted" p) [.Name x p1] [] pos) (lSK (kSl i)) := by
  refine ⟨(pe_callB (call_sortedDI hc) hg hm (by decide +kernel) (pa_cons ho pa_nil he) (by decide) (by decide) he (by rfl)).weak fun σ H Q ⟨w, ε, S, r, o⟩ => ?_⟩
  obtain ⟨ds, a, kvs, h1, h2, h3, h4, h5, o⟩ := kSl_at r o
  exact ⟨_, h3, sort_of r h5 h4 o⟩
/-- sorted(dict(..)) -/
theorem dl_sortKd {p : Pos} (hc : X.calm = true) (hg : Gl X "sorted") (hm : X.mg "sorted" = none) (ha : DKx X W e f)
    (he : starEach [e] X.env = (false, eval e X.env) :: starEach [] X.env := by rfl) : DL X W (.Call (.Name "sorted" p) [e] [] pos) (lSK f) := by
  refine ⟨(pe_callB (call_sortedDI hc) hg hm (by decide +kernel) (pa_cons ha.pe pa_nil he) (by decide) (by decide) he (by rfl)).weak fun σ H Q ⟨w, ε, S, r, o⟩ => ?_⟩
  refine ⟨w, ε, S, r, (OutM.bnd o).imp fun ds io1 S1 H1 r1 x1 o1 p kvs hp hv => ?_⟩
  have g := Grow.upd (o := .dK kvs) hp
  exact sort_of (r1.grow g) (hv.mono (fun a o _ h _ => g a o h) (fun _ _ h => h)) upd_same (o1.grow g)
theorem putS_of {K : PySem.W.Frag} {mg : Str → Option Value} {w : Wd} {ε : Ev} {S : List D} {σ : L2.St} {H : Hp} {D0 : Ends} {a : Addr} {kvs : List (L2.Key × V)} {ds : List (D × D)} {kv v : V} {kd d : D} (r : Rp K w ε S σ H)
    (h1 : ε[i]? = some (.lk (.dict ds))) (h2 : w.om i = some a) (h4 : H a = some (.dK kvs)) (h5 : Kvs K H w.mu kvs ds) (hk : Dv K H w.mu kv kd) (hv : Dv K H w.mu v d) (o : OutS K mg W w H (putS i ds kd d ε S) D0) :
    ∃ H', DPut H a kv v H' ∧ D0.nx σ H' := by
  unfold putS at o
  obtain ⟨⟨hkd, hl⟩, o⟩ := o.ite
  obtain ⟨key, hkey⟩ := Option.isSome_iff_exists.mp hkd
  obtain ⟨rfl, ok⟩ := keyD_ok hkey
  have := dv_key hk
  subst this
  refine ⟨_, DPut.k h4 (by rw [kvs_len h5]; exact Nat.lt_of_lt_of_le hl big_le), ?_⟩
  exact OutS.nx o (r.putOk h1 h2 (kvs_put h5 ok hv)) (Ext.put r (.inr ⟨i, h2⟩) _ nt_dK) rfl
theorem kSl_atS {K : PySem.W.Frag} {w : Wd} {ε : Ev} {S : List D} {σ : L2.St} {H : Hp} {i : Nat} {mg : Str → Option Value} {W : WX} {f : List (D × D) → M SR} {D0 : Ends} (r : Rp K w ε S σ H) (o : OutS K mg W w H (bnd (kSl i ε) f S) D0) :
    ∃ ds a kvs, ε[i]? = some (.lk (.dict ds)) ∧ w.om i = some a ∧ σ[i]? = some (some (.ref a)) ∧ H a = some (.dK kvs) ∧ Kvs K H w.mu kvs ds ∧ OutS K mg W w H (f ds S) D0 := by
  unfold kSl at o
  cases e : ε[i]? with
  | none => rw [e] at o; exact o.elim
  | some s =>
    rw [e] at o
    cases s with
    | lk d =>
      obtain ⟨q, h1, a, h2, rfl, ⟨kvs, ds, rfl, h3, h4⟩ | ⟨kvs, ds, rfl, h3, h4⟩⟩ := r.sl i _ e
      · exact ⟨ds, a, kvs, rfl, h2, h1, h3, h4, o⟩
      · exact o.elim
    | _ => exact o.elim
theorem ds_putK (hu : X.A.units + 100 < cLine) (ho : PE X (.Name x p1) (tVar i)) (hk : DE X W k fk) (he : DE X W e fe) (hs : swapsWith e (some (.Subscript (.Name x p1) k pos')) pos.line X.env = pure false := by rfl) :
    DS X W (.Assign [.Subscript (.Name x p1) k pos'] e pos) (sPutK i fk fe) := by
  refine ⟨(ps_dput (Nat.lt_of_le_of_lt (Nat.add_le_add_left (by decide) _) hu) ho hk.pe he.pe hs).weak fun D0 σ H ⟨w, ε, S, r, o⟩ => ?_⟩
  unfold sPutK at o
  refine ⟨w, ε, S, r, (OutS.exp o).imp fun d io1 S1 H1 r1 x1 o1 v dv => ?_⟩
  obtain ⟨ds, a, kvs, h1, h2, h3, h4, h5, o1⟩ := kSl_atS r1 o1
  refine ⟨_, h3, w.at io1, ε, S1, r1, (OutS.exp o1).imp fun kd io2 S2 H2 r2 x2 o2 kv kdv => ?_⟩
  obtain ⟨H', p, q⟩ := putS_of (D0 := D0) r2 h1 h2 (r1.same (ε' := ε) (S' := S1) (σ' := σ) x2 h2 h4 nt_dK) (h5.exx x2) kdv (dv.exx x2) o2
  exact ⟨a, H', rfl, p, q⟩
theorem ds_augK {op : Operator} {g : D → D → Option D} (hu : X.A.units + 100 < cLine) (ho : PE X (.Name x p1) (tVar i)) (hk : DE X W k fk) (he : DE X W e fe) (hop : OpR X (inplaceOp op) (rD2 X.K g))
    {i' : Expr} (ha : ∀ ov iv new, augStore i' ov iv new = (do holding [new, ov, iv] (setItem ov iv new); release [new, ov, iv] []; pure .next)) (hi' : i' = k) : DS X W (.AugAssign (.Subscript (.Name x p1) k pos') op e pos) (sAugK i g fk fe) := by
  subst hi'
  refine ⟨(ps_daug (rd := rD2 X.K g) (Nat.lt_of_le_of_lt (Nat.add_le_add_left (by decide) _) hu) ho hk.pe he.pe (fun pins s σ H x y v u Q I rx ry q => hop pins s σ H x y v u Q I rx ry q) ha).weak fun D0 σ H ⟨w, ε, S, r, o⟩ => ?_⟩
  unfold sAugK at o
  obtain ⟨ds, a, kvs, h1, h2, h3, h4, h5, o⟩ := kSl_atS r o
  refine ⟨_, h3, w, ε, S, r, (OutS.exp o).imp fun kd io1 S1 H1 r1 x1 o1 kv kdv => ?_⟩
  have o1 := OutS.exp (ε := ε) (σ := σ) o1
  obtain ⟨m, e1, q⟩ := OutM.lft o1 r1
  obtain ⟨hk, e1⟩ := if_some e1
  obtain ⟨key, hkey⟩ := Option.isSome_iff_exists.mp hk
  obtain ⟨rfl, ok⟩ := keyD_ok hkey
  have := dv_key kdv
  subst this
  obtain ⟨v, e2, dv2⟩ := (kvs_get (h5.exx x1)).1 m e1
  have h4' := r.same (ε' := ε) (S' := S) (σ' := σ) x1 h2 h4 nt_dK
  refine ⟨a, v, rfl, e2 ▸ DGet.k h4', w.at io1, ε, S1, r1, (OutS.exp (q H1 (Grow.refl H1))).imp fun d io2 S2 H2 r2 x2 o2 y dy => ?_⟩
  have o2 := OutS.exp (ε := ε) (σ := σ) o2
  obtain ⟨d2, e3, k2⟩ := o2.lft r2
  refine ⟨_, m, d, d2, fun a z => r2.muh z, .inl (dv2.exx x2), .inl dy, e3, fun v' H' g' dv' => ?_⟩
  have h4'' := r1.same (ε' := ε) (S' := S1) (σ' := σ) x2 (show (w.at io1).om i = some a from h2) h4' nt_dK
  exact putS_of (D0 := D0) (r2.grow g') h1 h2 (g' _ _ h4'') ((h5.exx (x1.trans x2)).mono (fun a o _ h _ => g' a o h) (fun _ _ h => h)) (Dv.mono (fun a o _ h _ => g' a o h) (fun _ _ h => h) _ _ (kdv.exx x2)) dv' (k2 H' g')
end
end
end Tn
end

section
set_option Elab.async false
set_option linter.all false
set_option maxRecDepth 100000
set_option maxHeartbeats 1000000
/-! x *= e, is True, len(set(..)) -/
namespace Tn
open PySem PySem.Spec PyProof.Rows L2
def opMulI : D → D → Option D
  | .int i, .int j => if mulOk i j then some (.int (i * j)) else none
  | _, _ => none
def sameB (b : Bool) : D → D
  | .bool a => .bool (decide (a = b))
  | _ => .bool false
def opIsB (d e : D) : Option D := match e with
  | .bool b => some (sameB b d)
  | _ => none
def opNotB (d e : D) : Option D := match e with
  | .bool b => some (match d with | .bool a => .bool (!decide (a = b)) | _ => .bool true)
  | _ => none
def intsD : List D → Option (List Int)
  | [] => some []
  | .int i :: r => (intsD r).map (i :: ·)
  | _ :: _ => none
/-- how many different -/
def distI (ns : List Int) : Nat := (ns.foldl step_dedup []).length
def gLenSet (ds : List D) : Option D := match intsD ds with
  | some ns => if ns.length ≤ 4000 then some (.int (distI ns)) else none
  | none => none
def opLenSet : D → Option D
  | .list ds => gLenSet ds
  | .tuple ds => gLenSet ds
  | _ => none
section
variable [TB] {X : Cx} {W : WX}
theorem od_imul : OpR X (inplaceOp .Mult) (rD2 X.K opMulI) := by
  intro pins s σ H x y v u Q I rx ry h
  obtain ⟨mu, d1, d2, d, m, h1, h2, e, q⟩ := h
  unfold opMulI at e
  split at e
  · split at e
    · rename_i hz
      cases e
      have e1 := h1.int
      have e2 := h2.int
      subst e1 e2
      obtain ⟨t, rfl⟩ := rx
      obtain ⟨t', rfl⟩ := ry
      exact imul_int ⟨.int _, H, I.tok _, ⟨_, rfl⟩, q _ H (Grow.refl H) (.int _)⟩ (by
        rcases mulOk_of hz with c | c
        · exact c.ok
        · exact c.ok)
    · cases e
  · cases e
theorem od_isB : OpR X (compareOp .Is) (rD2 X.K opIsB) := by
  intro pins s σ H x y v u Q I rx ry h
  obtain ⟨mu, d1, d2, d, m, h1, h2, e, q⟩ := h
  unfold opIsB at e
  split at e
  · rename_i b
    cases e
    have e2 : y = .bl b := by
      rcases h2 with h | ⟨a, _, h⟩
      · cases h; rfl
      · obtain ⟨_, _, h, _⟩ := h; cases h
    subst e2
    cases (show u = Value.bool b from ry)
    rcases h1 with h | ⟨a, rfl, xs, ds, rfl, _⟩
    · cases h with
      | bl a =>
        cases (show v = Value.bool a from rx)
        by_cases e : a = b
        · subst e
          exact wpAny_is_self rfl ⟨.bl true, H, I, rfl, by simpa [sameB] using q _ H (Grow.refl H) (.bl _)⟩
        · exact wpAny_is_other rfl (fun z => e (Value.bool.inj z)) ⟨.bl false, H, I, rfl, q (.bl false) H (Grow.refl H) (by simpa [sameB, e] using .bl false)⟩
      | non =>
        cases (show v = Value.none from rx)
        exact wpAny_is_other rfl (fun z => nomatch z) ⟨.bl false, H, I, rfl, q _ H (Grow.refl H) (.bl _)⟩
      | int i =>
        obtain ⟨t, rfl⟩ := rx
        exact wpAny_is_other rfl (fun z => nomatch z) ⟨.bl false, H, I, rfl, q _ H (Grow.refl H) (.bl _)⟩
      | str i hs =>
        obtain ⟨t, rfl⟩ := rx
        exact wpAny_is_other rfl (fun z => nomatch z) ⟨.bl false, H, I, rfl, q _ H (Grow.refl H) (.bl _)⟩
      | lst _ _ _ =>
        cases (show v = Value.ref _ from rx)
        exact wpAny_is_other rfl (fun z => nomatch z) ⟨.bl false, H, I, rfl, q _ H (Grow.refl H) (.bl _)⟩
      | tup _ _ _ =>
        cases (show v = Value.ref _ from rx)
        exact wpAny_is_other rfl (fun z => nomatch z) ⟨.bl false, H, I, rfl, q _ H (Grow.refl H) (.bl _)⟩
      | tupK _ _ =>
        cases (show v = Value.ref _ from rx)
        exact wpAny_is_other rfl (fun z => nomatch z) ⟨.bl false, H, I, rfl, q _ H (Grow.refl H) (.bl _)⟩
    · cases (show v = Value.ref _ from rx)
      exact wpAny_is_other rfl (fun z => nomatch z) ⟨.bl false, H, I, rfl, q _ H (Grow.refl H) (.bl _)⟩
  · cases e
theorem od_notB : OpR X (compareOp .IsNot) (rD2 X.K opNotB) := by
  intro pins s σ H x y v u Q I rx ry h
  obtain ⟨mu, d1, d2, d, m, h1, h2, e, q⟩ := h
  unfold opNotB at e
  split at e
  · rename_i b
    cases e
    have e2 : y = .bl b := by
      rcases h2 with h | ⟨a, _, h⟩
      · cases h; rfl
      · obtain ⟨_, _, h, _⟩ := h; cases h
    subst e2
    cases (show u = Value.bool b from ry)
    rcases h1 with h | ⟨a, rfl, xs, ds, rfl, _⟩
    · cases h with
      | bl a =>
        cases (show v = Value.bool a from rx)
        by_cases e : a = b
        · subst e
          exact wpAny_isNot_self rfl ⟨.bl false, H, I, rfl, by simpa using q _ H (Grow.refl H) (.bl _)⟩
        · exact wpAny_isNot_other rfl (fun z => e (Value.bool.inj z)) ⟨.bl true, H, I, rfl, q (.bl true) H (Grow.refl H) (by simpa [e] using .bl true)⟩
      | non =>
        cases (show v = Value.none from rx)
        exact wpAny_isNot_other rfl (fun z => nomatch z) ⟨.bl true, H, I, rfl, q _ H (Grow.refl H) (.bl _)⟩
      | int i =>
        obtain ⟨t, rfl⟩ := rx
        exact wpAny_isNot_other rfl (fun z => nomatch z) ⟨.bl true, H, I, rfl, q _ H (Grow.refl H) (.bl _)⟩
      | str i hs =>
        obtain ⟨t, rfl⟩ := rx
        exact wpAny_isNot_other rfl (fun z => nomatch z) ⟨.bl true, H, I, rfl, q _ H (Grow.refl H) (.bl _)⟩
      | lst _ _ _ =>
        cases (show v = Value.ref _ from rx)
        exact wpAny_isNot_other rfl (fun z => nomatch z) ⟨.bl true, H, I, rfl, q _ H (Grow.refl H) (.bl _)⟩
      | tup _ _ _ =>
        cases (show v = Value.ref _ from rx)
        exact wpAny_isNot_other rfl (fun z => nomatch z) ⟨.bl true, H, I, rfl, q _ H (Grow.refl H) (.bl _)⟩
      | tupK _ _ =>
        cases (show v = Value.ref _ from rx)
        exact wpAny_isNot_other rfl (fun z => nomatch z) ⟨.bl true, H, I, rfl, q _ H (Grow.refl H) (.bl _)⟩
    · cases (show v = Value.ref _ from rx)
      exact wpAny_isNot_other rfl (fun z => nomatch z) ⟨.bl true, H, I, rfl, q _ H (Grow.refl H) (.bl _)⟩
  · cases e
end
theorem hb_isB : ∀ x y d, opIsB x y = some d → ∃ b, d = .bool b := fun x y d h => by
  unfold opIsB at h
  split at h
  · cases h
    unfold sameB
    split
    · exact ⟨_, rfl⟩
    · exact ⟨_, rfl⟩
  · cases h
theorem hb_notB : ∀ x y d, opNotB x y = some d → ∃ b, d = .bool b := fun x y d h => by
  unfold opNotB at h
  split at h
  · cases h
    split
    · exact ⟨_, rfl⟩
    · exact ⟨_, rfl⟩
  · cases h
theorem dd_nd : ∀ (ns acc : List Int), acc.Nodup → (ns.foldl step_dedup acc).Nodup ∧ ∀ k, k ∈ ns.foldl step_dedup acc ↔ k ∈ acc ∨ k ∈ ns
  | [], acc, h => ⟨h, fun k => by simp⟩
  | n :: ns, acc, h => by
    rw [List.foldl_cons]
    have hn : (step_dedup acc n).Nodup ∧ ∀ k, k ∈ step_dedup acc n ↔ k ∈ acc ∨ k = n := by
      unfold step_dedup
      split
      · rename_i hm
        obtain ⟨x, hx, e⟩ := List.any_eq_true.mp hm
        have e : x = n := eq_of_beq e
        subst e
        refine ⟨h, fun k => ⟨.inl, fun z => ?_⟩⟩
        rcases z with z | z
        · exact z
        · exact z ▸ hx
      · rename_i hm
        refine ⟨List.nodup_append.mpr ⟨h, List.nodup_cons.mpr ⟨by simp, List.nodup_nil⟩, fun a ha b hb e => ?_⟩, fun k => by simp⟩
        rw [List.mem_singleton.mp hb] at e
        exact hm (List.any_eq_true.mpr ⟨a, ha, by rw [e]; exact beq_self_eq_true n⟩)
    obtain ⟨p, q⟩ := dd_nd ns (step_dedup acc n) hn.1
    refine ⟨p, fun k => ?_⟩
    rw [q k, hn.2 k, List.mem_cons, or_assoc]
theorem distI_of {ns ks : List Int} (h : ks.Nodup) (hm : ∀ k, k ∈ ks ↔ k ∈ ns) : ks.length = distI ns := by
  obtain ⟨p, q⟩ := dd_nd ns [] List.nodup_nil
  exact ((List.perm_ext_iff_of_nodup h p).mpr fun k => by rw [hm k, q k]; simp).length_eq
theorem map_getD (ns : List Int) : (List.range ns.length).map (fun i => ns.getD i 0) = ns := by
  refine List.ext_getElem (by simp) fun i h1 h2 => ?_
  rw [List.getElem_map, List.getElem_range, List.getD_eq_getElem?_getD, List.getElem?_eq_getElem h2]; rfl
theorem dvs_ints {K : PySem.W.Frag} {H : Hp} {mu : Addr → Prop} : ∀ {ds : List D} {xs : List V} {ns : List Int}, Dvs K H mu xs ds → intsD ds = some ns → xs = ns.map V.int
  | [], _, ns, .nil, e => by cases e; rfl
  | d :: ds, _, ns, .cons h1 h2, e => by
    cases d with
    | int i =>
      have e : (intsD ds).map (i :: ·) = some ns := e
      cases e2 : intsD ds with
      | none => rw [e2] at e; cases e
      | some ks =>
        rw [e2] at e
        cases e
        cases h1
        rw [dvs_ints h2 e2]; rfl
    | _ => cases e
section
variable [TB] {X : Cx} {W : WX} {a : Expr} {fa : XE}
def tLenSetN (K : PySem.W.Frag) (ta : TE) : TE := fun σ H Q => ta σ H fun x H1 => ∃ (l : Addr) (ns : List Int), x = .ref l ∧ (SqL K H1 l (ns.map V.int) ∨ SqT K H1 l (ns.map V.int)) ∧ ns.length ≤ 4000 ∧ Q (.int (distI ns : Nat)) H1
theorem pe_lenSetN {ta : TE} {p p2 q pos : Pos} (hg : Gl X "len") (hm : X.mg "len" = none) (hg2 : Gl X "set") (hm2 : X.mg "set" = none) (ha : PE X a ta) (hc : X.calm = true := by rfl)
    (na : starEach [a] X.env = (false, eval a X.env) :: starEach [] X.env := by rfl) : PE X (.Call (.Name "len" p) [.Call (.Name "set" p2) [a] [] q] [] pos) (tLenSetN X.K ta) := by
  refine ⟨fun pins s σ H Q I h => ?_⟩
  refine Call_ (ld_blt I hg hm boot_len ?_)
  refine PyProof.Rows.callWith_builtin1 (PyProof.Rows.args_cons ?_ rfl) rfl rfl
  refine Call_ (ld_blt I hg2 hm2 boot_set ?_)
  refine PyProof.Rows.callWith_type1 (PyProof.Rows.args_cons (thn (ha.run pins s σ H _ I h) fun v s1 ⟨x, H1, I1, r1, q1⟩ => PyProof.Rows.args_nil ?_) na) na rfl
  obtain ⟨l, ns, rfl, hq, hl, q1⟩ := q1
  cases r1
  rcases hq with hq | hq
  · obtain ⟨its, r, pl, hz⟩ := I1.list hq
    have hlen : its.toArray.size = ns.length := by rw [List.size_toArray, ← r.length, List.length_map]
    refine call_set_list (I1.ok.hd hc) pl.isList (by simpa using RZ.intsAre_vals r) (by rw [hlen]; unfold scanBound; omega) fun h' tk hS hk => ?_
    refine PyProof.Rows.args_nil ?_
    rw [hlen] at hS
    have e : (firstMet (fun i => ns.getD i 0) ns.length).length = distI ns := by unfold firstMet distI; rw [map_getD]
    have hle := firstMet_length_le (fun i => ns.getD i 0) ns.length
    rw [e] at hS hle
    obtain ⟨o, es, ep, t, ho, hex, hd, _, _, _, hf, hn⟩ := hS
    have I2 : Inv X pins σ H1 { s1 with heap := h', toks := tk } := I1.kept fun b o e => hk b o (Heap.lt_size e) e
    exact call_len_set ho hex hd hf (by rw [hn] <;> omega) ⟨.int (distI ns), H1, I2.tok _, ⟨_, by rw [hn]⟩, q1⟩
  · obtain ⟨its, r, pl, hz⟩ := I1.tuple hq
    refine call_set_tupI ns (I1.ok.hd hc) pl (by simpa using RZ.intsAre_vals r) (by unfold scanBound; omega) fun h' tk c hS hle hk => ?_
    refine PyProof.Rows.args_nil ?_
    obtain ⟨o, es, ep, t, ho, hex, hd, _, hnd, hmem, _, hf, hn, _⟩ := hS
    have e : c = distI ns := by
      rw [← hn, ← Array.length_toList, ← List.length_map (f := keyOf)]
      exact distI_of hnd fun k => by rw [← hmem k]; simp
    subst e
    have I2 : Inv X pins σ H1 { s1 with heap := h', toks := tk } := I1.kept hk
    exact call_len_set ho hex hd hf (by rw [hn] <;> omega) ⟨.int (distI ns), H1, I2.tok _, ⟨_, by rw [hn]⟩, q1⟩
theorem de_lenSet {p p2 q pos : Pos} (hg : Gl X "len") (hm : X.mg "len" = none) (hg2 : Gl X "set") (hm2 : X.mg "set" = none) (hc : X.calm = true) (ha : DE X W a fa)
    (na : starEach [a] X.env = (false, eval a X.env) :: starEach [] X.env := by rfl) : DE X W (.Call (.Name "len" p) [.Call (.Name "set" p2) [a] [] q] [] pos) (x1 opLenSet fa) := by
  refine ⟨(pe_lenSetN hg hm hg2 hm2 ha.pe hc na).weak fun σ H Q ⟨w, ε, S, rp, o⟩ => ?_⟩
  refine ⟨w, ε, S, rp, (OutM.bnd o).imp fun d1 io1 S1 H1 r1 x1 o1 v dv => ?_⟩
  obtain ⟨m, e1, k⟩ := OutM.lft o1 r1
  have fin : ∀ ds xs, gLenSet ds = some m → Dvs X.K H1 (w.at io1).mu xs ds → ∃ ns : List Int, xs = ns.map V.int ∧ ns.length ≤ 4000 ∧ m = .int (distI ns) := fun ds xs e h => by
    unfold gLenSet at e
    split at e
    · rename_i ns hns
      split at e
      · rename_i hl; cases e; exact ⟨ns, dvs_ints h hns, hl, rfl⟩
      · cases e
    · cases e
  cases d1 with
  | list ds =>
    cases dv with
    | lst h1 h2 h3 =>
      obtain ⟨ns, rfl, hl, rfl⟩ := fin ds _ e1 h3
      exact ⟨_, ns, rfl, .inl (.of h1), hl, k H1 (Grow.refl H1) _ (.int _)⟩
  | tuple ds =>
    obtain ⟨p, xs, rfl, t, kx, _⟩ := dv_tupS dv
    obtain ⟨ns, rfl, hl, rfl⟩ := fin ds _ e1 kx
    exact ⟨_, ns, rfl, .inr t, hl, k H1 (Grow.refl H1) _ (.int _)⟩
  | _ => cases e1
end
theorem fnd_ofA [TB] {P : Program} {w : World} {K : PySem.W.Frag} {mg : Str → Option Value} {base : Heap} {k : Nat} {x y : Str} {ps : List Str} {F : Fn} {st : Stmt} {f : Addr} {fd : FuncData} (h : Fun K x x st f fd) (hm : mg y = some (.ref f)) (hb : L2.Binds K fd ps []) (hF : FnOk P w K mg base (L2.CX P w) k f fd ps (spD K mg F)) : FnD P w K mg base k y ps F :=
  ⟨⟨f, fd, hm, h.kp, hb, hF⟩⟩
theorem FnD.al [TB] {P : Program} {w : World} {K : PySem.W.Frag} {mg : Str → Option Value} {base : Heap} {k : Nat} {x y : Str} {ps : List Str} {F : Fn} (h : FnD P w K mg base k x ps F) (e : mg y = mg x) : FnD P w K mg base k y ps F := by
  obtain ⟨f, fd, h1, h2⟩ := h
  exact ⟨⟨f, fd, e.trans h1, h2⟩⟩
end Tn
end

section
set_option Elab.async false
set_option linter.all false
set_option maxRecDepth 100000
set_option maxHeartbeats 2000000
/-! enumerate of a tuple or a list -/
namespace Tn
open PySem PySem.Spec PyProof.Rows L2
open Sem (wp)
open AutoSeq1 (wpAny_loadPart')
set_option maxHeartbeats 4000000 in
theorem meets_enum1 {v : Value} {o : Obj} {H : Heap → Prop} (B : Begins v o H) :
    Meets (Builtin.«enumerate.__new__» ⟨[.type "enumerate", v], []⟩) (fun _ R s => H s.heap ∧
      R (.ok (.ret (.ref (s.heap.push o).objs.size))) { s with heap := (s.heap.push o).push { cls := .type "enumerate", data := .fields #[.none, .bool false, .ref s.heap.objs.size, rawInt 0, .none, .none] } }) :=
  .of_wp fun prog w A R s h => by
    obtain ⟨hp, g, d, tk, os⟩ := s; obtain ⟨h1, h⟩ := h
    have hsub := sub_enumerate
    have q1 : ∀ {A' : Around} {E : Value → Shared → Prop} {Q : Value → Shared → Prop}, Q (.ref hp.objs.size) ⟨hp.push o, g, d, tk, os⟩ → wpAny (model prog w) A' (pyIter v) Q E ⟨hp, g, d, tk, os⟩ :=
      fun q => B.iter prog w _ _ ⟨hp, g, d, tk, os⟩ _ h1 q
    wp_walk using q1
    refine wpAny_stack_any fun st => wpAny_pure ?_
    split
    · rename_i c _ _ _ _ _
      cases (c == Value.type "enumerate")
      · wp_walk using q1
        exact ⟨_, rfl, h⟩
      · wp_walk using q1
        exact ⟨_, rfl, h⟩
    · wp_walk using q1
      exact ⟨_, rfl, h⟩
theorem call_enum1 {prog : Program} {w : World} {A : Around} {E : Value → Shared → Prop} {s : Shared} {v : Value} {o : Obj} {H : Heap → Prop} {Q : Value → Shared → Prop} (B : Begins v o H) (h1 : H s.heap)
    (h : ∀ h', IsEnum h' (s.heap.objs.size + 1) s.heap.objs.size 0 .none → h'.get? s.heap.objs.size = some o →
      (∀ b o, s.heap.get? b = some o → h'.get? b = some o) → Q (.ref (s.heap.objs.size + 1)) { s with heap := h' }) :
    wpAny (model prog w) A (call (.type "enumerate") [v]) Q E s := by
  refine callType_new F.called_enumerate (by decide) (F.typeCall_enumerate_1 _) (F.newCall_enumerate_1 _) (fun obj => F.args_object_init_2 obj _) F.entry_enumerate_new (meets_enum1 B) ⟨h1, ?_⟩
  have hz : (s.heap.push o).objs.size = s.heap.objs.size + 1 := Heap.size_push ..
  show _ ∧ _
  rw [hz]
  have he : IsEnum ((s.heap.push o).push { cls := .type "enumerate", data := .fields #[.none, .bool false, .ref s.heap.objs.size, rawInt 0, .none, .none] }) (s.heap.objs.size + 1) s.heap.objs.size 0 .none := by
    have := Heap.get?_push_size (s.heap.push o) (o := { cls := .type "enumerate", data := .fields #[.none, .bool false, .ref s.heap.objs.size, rawInt 0, .none, .none] }) rfl
    rw [hz] at this; exact this
  exact ⟨⟨_, he, rfl⟩, h _ he (Heap.get?_push_of_some _ (Heap.get?_push_size _ B.free)) fun b o x => Heap.get?_push_of_some _ (Heap.get?_push_of_some _ x)⟩
theorem drawsEnd {prog : Program} {w : World} {A : Around} (hh : A.handled = none) (it t : Addr) (items : Array Value) {n : Nat} (hn : items.size ≤ n) :
    Draws prog w A it [it, t] n (fun _ _ => False) (fun i h => i = n ∧ h.IsTupleIter it t i ∧ h.IsTuple t items) where
  live := fun _ _ st => let ⟨o, ho, _⟩ := st.2.1; ⟨o, ho⟩
  frame := fun _ _ _ st hk => ⟨st.1, st.2.1.at fun o e => hk it (by simp) o e, st.2.2.at fun o e => hk t (by simp) o e⟩
  item := fun i s Q E hi st hQ => absurd st.1 (Nat.ne_of_lt hi)
  done := fun s Q E st hE => wpAny_nextOf_tuple_end hh st.2.1 st.2.2 (by simp; exact hn) hE
def IteT (K : PySem.W.Frag) (a : Addr) : It :=
  ⟨fun i H => ∃ (xs : List V) (x : V), SqT K H a xs ∧ xs[i]? = some x, fun i H v H' => ∃ T x, v = .ref T ∧ H T = none ∧ H' = upd H T (.tup [.int (i : Nat), x]) ∧ ∀ xs, SqT K H a xs → xs[i]? = some x, fun i H => ∃ xs : List V, SqT K H a xs ∧ xs.length ≤ i⟩
theorem turn_enumT {P : Program} {w : World} {K : PySem.W.Frag} {elts : List Expr} {kk : Nat} {tpos : Pos} (a e it : Addr) :
    Turn P w K (.Tuple elts kk tpos) (IteT K a) [e, it] e (fun i h => (∃ old, IsEnum h e it ((i : Nat) : Int) old) ∧ h.IsTupleIter it a i ∧ e ≠ it ∧ a ≠ it ∧ a ≠ e) where
  mem := by simp
  obj := fun i h st b hb => by
    obtain ⟨⟨old, he⟩, ⟨o, ho, hc, hd⟩, _⟩ := st
    have e' : b = e ∨ b = it := by simpa using hb
    rcases e' with z | z
    · rw [z]; exact ⟨_, he, fun v q => nomatch q⟩
    · rw [z]; exact ⟨o, ho, fun v q => by rw [hd] at q; cases q⟩
  keep := fun i h h' st k => let ⟨⟨old, he⟩, hi, hne⟩ := st; ⟨⟨old, k e (by simp) _ he⟩, hi.at fun o q => k it (by simp) o q, hne⟩
  item := by
    intro X hP hw hK hc i pins s σ H E I hf st hg
    subst hP hw hK
    obtain ⟨⟨old, he⟩, hit, hne, hai, hae⟩ := st
    obtain ⟨xs, x, hq, hx⟩ := hg
    obtain ⟨its, rv, p, hz⟩ := I.tuple hq
    obtain ⟨u, hu, ru⟩ := rv.get hx
    have hlt : i < its.toArray.size := by
      have := (List.getElem?_eq_some_iff.mp hu).1
      simpa using this
    have hel : e < s.heap.objs.size := Heap.lt_size he
    have hil : it < s.heap.objs.size := by obtain ⟨_, q, _⟩ := hit; exact Heap.lt_size q
    have D := Draws.tuple (prog := X.prog) (w := X.w) (A := X.A.in1) (show X.A.in1.handled = none from I.ok.hd hc) it a hai its.toArray
    refine wpAny_pyNext_enum_itemD D he ⟨hit, p⟩ hlt hne (by simp [hne, Ne.symm hae]) fun x1 h' tk hP1 ho hst hT hsz hk => ?_
    have ex : x1 = u := by
      have : its.toArray[i]? = some u := by simpa using hu
      rw [hP1] at this; exact Option.some.inj this
    subst ex
    refine ⟨_, rfl, wpAny_letOwnedTupleGo_enum (s := { s with heap := h', toks := tk + 1 }) ho fun h'' he' sb => ?_⟩
    have hT2 : h''.get? s.heap.objs.size = some { cls := .type "tuple", data := .seq #[.int i tk, x1] } := (sb.2 _ (Nat.ne_of_gt hel)).trans hT
    have new : ObjOk X.prog X.w (upd H s.heap.objs.size (.tup [.int (i : Nat), x])) h'' s.heap.objs.size (.tup [.int (i : Nat), x]) :=
      ⟨by show 2 ≤ sizeLine; decide, [.int i tk, x1], .cons ⟨_, rfl⟩ (.cons ru .nil), ⟨_, hT2, rfl, _, rfl⟩⟩
    have I1 : Inv X pins σ (upd H s.heap.objs.size (.tup [.int (i : Nat), x])) { s with heap := h'', toks := tk + 1 } :=
      I.turnedNew (ch := [e, it]) (fun b ob hb q => (sb.2 b (fun z => hb (by simp [z]))).trans (hk b ob (fun z => hb (by simp [z])) (fun z => hb (by simp [z])) q)) hf (Nat.le_refl _) new
    refine ⟨.ref s.heap.objs.size, _, I1, rfl, ⟨_, x, rfl, I.hok.fresh (Nat.le_refl _), rfl, fun ys hy => by rw [I.tuple_inj hy hq]; exact hx⟩, ⟨⟨x1, ?_⟩, hst.1.at fun o q => (sb.2 it (Ne.symm hne)).trans q, hne, hai, hae⟩, fun b hb => ?_⟩
    · have e1 : ((i + 1 : Nat) : Int) = (i : Int) + 1 := by omega
      rw [e1]; exact he'
    · have hb' : b < s.heap.objs.size := by
        have e' : b = e ∨ b = it := by simpa using hb
        rcases e' with z | z
        · rw [z]; exact hel
        · rw [z]; exact hil
      rw [upd_ne (Nat.ne_of_lt hb')]
      exact (hf b hb).1
  done := by
    intro X hP hw hK hc i pins s σ H E I hf st hg
    subst hP hw hK
    obtain ⟨⟨old, he⟩, hit, hne, hai, hae⟩ := st
    obtain ⟨xs, hq, hx⟩ := hg
    obtain ⟨its, rv, p, hz⟩ := I.tuple hq
    obtain ⟨f0, f1, f2, f3, f4, f5⟩ := hf it (by simp)
    have hl : its.toArray.size ≤ i := by rw [List.size_toArray, ← rv.length]; exact hx
    exact wpAny_pyNext_enum_endD (drawsEnd (prog := X.prog) (w := X.w) (A := X.A.in1) (show X.A.in1.handled = none from I.ok.hd hc) it a its.toArray hl) he ⟨rfl, hit, p⟩ fun h' eb => ⟨rfl, I.turned (t' := s.toks) (fun b o hb q => eb b o hb q) f0 f1 f3 f4 f5⟩
  self := fun A i s Q E st h => let ⟨⟨_, he⟩, _⟩ := st; wpAny_pyIter_enum he h
/-- enumerate of a list or tuple -/
def iEnumA (K : PySem.W.Frag) (ta : TA) : TI := fun σ H R => ta σ H fun vs H1 => ∃ a xs, vs = [.ref a] ∧ ((SqL K H1 a xs ∧ R (Ite K a) H1) ∨ (SqT K H1 a xs ∧ R (IteT K a) H1))
theorem pi_enumA {X : Cx} {e : Expr} {ta : TA} {p pos tpos : Pos} {elts : List Expr} {kk : Nat} (hg : Gl X "enumerate") (hm : X.mg "enumerate" = none) (ha : PA X [e] ta) (hs : starEach [e] X.env = [(false, eval e X.env)] := by rfl) :
    PI X (.Tuple elts kk tpos) (.Call (.Name "enumerate" p) [e] [] pos) (iEnumA X.K ta) := by
  refine ⟨fun pins s σ H R I h => ?_⟩
  refine Call_ (ld_blt I hg hm boot_enumerate (PyProof.Rows.callWith_type1 (thn (ha.run pos pins s σ H _ I h) fun us s1 ⟨vs, H1, I1, r1, q1⟩ => ?_) hs rfl))
  obtain ⟨a, xs, ex, q⟩ := q1
  subst ex
  cases r1 with
  | cons r rr =>
    cases rr
    cases r
    have fp : ∀ b ∈ [s1.heap.objs.size + 1, s1.heap.objs.size], FpOk X pins H1 b := fun b hb => by
      have e' : b = s1.heap.objs.size + 1 ∨ b = s1.heap.objs.size := by simpa using hb
      have hle : s1.heap.objs.size ≤ b := by
        rcases e' with z | z
        · rw [z]; exact Nat.le_add_right _ _
        · rw [z]; exact Nat.le_refl _
      exact I1.fpOk hle (I1.hok.fresh hle)
    rcases q with ⟨hq, q⟩ | ⟨hq, q⟩
    · obtain ⟨its, rv, p', hz⟩ := I1.list hq
      refine call_enumerate_list p'.isList fun h' he hit hsz hk => wpAny_pyIter_enum he ?_
      have I2 : Inv X pins σ H1 { s1 with heap := h' } := I1.kept (t' := s1.toks) hk
      exact ⟨s1.heap.objs.size + 1, [s1.heap.objs.size + 1, s1.heap.objs.size], _, _, H1, rfl, I2, turn_enum a (s1.heap.objs.size + 1) s1.heap.objs.size, ⟨⟨.none, he⟩, hit, Nat.succ_ne_self _⟩, fp, q⟩
    · obtain ⟨its, rv, p', hz⟩ := I1.tuple hq
      have hal : a < s1.heap.objs.size := by obtain ⟨_, q, _⟩ := p'; exact Heap.lt_size q
      refine call_enum1 (begins_tuple a its.toArray) p' fun h' he hit hk => wpAny_pyIter_enum he ?_
      have I2 : Inv X pins σ H1 { s1 with heap := h' } := I1.kept (t' := s1.toks) hk
      exact ⟨s1.heap.objs.size + 1, [s1.heap.objs.size + 1, s1.heap.objs.size], _, _, H1, rfl, I2, turn_enumT a (s1.heap.objs.size + 1) s1.heap.objs.size, ⟨⟨.none, he⟩, ⟨_, hit, rfl, rfl⟩, Nat.succ_ne_self _, Nat.ne_of_lt hal, Nat.ne_of_lt (Nat.lt_succ_of_lt hal)⟩, fp, q⟩
def enumD : Nat → List D → List D
  | _, [] => []
  | n, x :: xs => .tuple [.int n, x] :: enumD (n + 1) xs
theorem enumD_len : ∀ (n : Nat) (xs : List D), (enumD n xs).length = xs.length
  | _, [] => rfl
  | n, x :: xs => by rw [enumD, List.length_cons, List.length_cons, enumD_len]
theorem enumD_get : ∀ (n : Nat) (xs : List D) (i : Nat) {d : D}, (enumD n xs)[i]? = some d → ∃ x, xs[i]? = some x ∧ d = .tuple [.int ((n + i : Nat) : Int), x]
  | n, [], i, d, h => by simp [enumD] at h
  | n, x :: xs, 0, d, h => by
    simp [enumD] at h
    exact ⟨x, rfl, h.symm⟩
  | n, x :: xs, i + 1, d, h => by
    obtain ⟨y, e1, e2⟩ := enumD_get (n + 1) xs i (d := d) h
    refine ⟨y, e1, ?_⟩
    rw [e2]
    have : n + 1 + i = n + (i + 1) := by omega
    rw [this]
/-- enumerate(x) -/
def iEnS (a : XE) : XL := fun ε => bnd (a ε) fun x => match x with
  | .list xs => ret (enumD 0 xs)
  | .tuple xs => ret (enumD 0 xs)
  | _ => stk
section
variable [TB] {X : Cx} {W : WX} {a : Expr} {fa : XE} {pos : Pos}
theorem yld_enum {K : PySem.W.Frag} {w : Wd} {H : Hp} {p : Addr} {xs : List V} {ds : List D} (hp : H p = some (.lst xs)) (np : ¬ w.mu p) (k : Dvs K H w.mu xs ds) (hl : xs.length ≤ sizeLine) : Yld K (Ite K p) w H (enumD 0 ds) := by
  refine ⟨by rw [enumD_len, ← k.len]; exact hl, fun i w2 H2 x m => ?_⟩
  have hp2 := x.keep p _ np hp nt_lst
  refine ⟨fun d hd => ?_, fun hi => ⟨xs, .of hp2, ?_⟩⟩
  · obtain ⟨d1, g1, rfl⟩ := enumD_get _ _ _ hd
    obtain ⟨v1, hv1, dv1⟩ := k.get g1
    refine ⟨⟨xs, v1, .of hp2, hv1⟩, fun y H3 ⟨T, x1, e1, e2, e3, e4⟩ => ?_⟩
    subst e1 e3
    have z1 := e4 xs (.of hp2)
    rw [hv1] at z1; cases z1
    rw [Nat.zero_add]
    exact ⟨Grow.upd e2, new_tup (fun a z => (m a z).ne) e2 (.cons (.int _) (.cons (dv1.exw x) .nil))⟩
  · rw [enumD_len] at hi
    rw [k.len]; exact hi
theorem yld_enumT {K : PySem.W.Frag} {w : Wd} {H : Hp} {p : Addr} {xs : List V} {ds : List D} (hp : (H p = some (.tup xs) ∧ ¬ w.mu p) ∨ SqT K NoH p xs) (k : Dvs K H w.mu xs ds) (hl : xs.length ≤ sizeLine) : Yld K (IteT K p) w H (enumD 0 ds) := by
  refine ⟨by rw [enumD_len, ← k.len]; exact hl, fun i w2 H2 x m => ?_⟩
  have hp2 : SqT K H2 p xs := by
    rcases hp with ⟨hp, n⟩ | hp
    · exact .of (x.keep p _ n hp nt_tup)
    · exact SqT.ofK hp
  refine ⟨fun d hd => ?_, fun hi => ⟨xs, hp2, ?_⟩⟩
  · obtain ⟨d1, g1, rfl⟩ := enumD_get _ _ _ hd
    obtain ⟨v1, hv1, dv1⟩ := k.get g1
    refine ⟨⟨xs, v1, hp2, hv1⟩, fun y H3 ⟨T, x1, e1, e2, e3, e4⟩ => ?_⟩
    subst e1 e3
    have z1 := e4 xs hp2
    rw [hv1] at z1; cases z1
    rw [Nat.zero_add]
    exact ⟨Grow.upd e2, new_tup (fun a z => (m a z).ne) e2 (.cons (.int _) (.cons (dv1.exw x) .nil))⟩
  · rw [enumD_len] at hi
    rw [k.len]; exact hi
theorem di_enum {p tpos : Pos} {elts : List Expr} {kk : Nat} (hg : Gl X "enumerate") (hm : X.mg "enumerate" = none) (ha : DE X W a fa) (hs : starEach [a] X.env = [(false, eval a X.env)] := by rfl) :
    DI X W (.Tuple elts kk tpos) (.Call (.Name "enumerate" p) [a] [] pos) (iEnS fa) := by
  refine ⟨pi_imp (pi_enumA hg hm (pa_cons ha.pe pa_nil hs) hs) fun pins s σ H R I ⟨w, ε, S, r, o⟩ => ?_⟩
  refine ⟨fun J H2 => ∃ (w2 : Wd) (p : Addr) (xs : List V) (ds : List D), Dvs X.K H2 w2.mu xs ds ∧
      ((J = Ite X.K p ∧ H2 p = some (.lst xs) ∧ ¬ w2.mu p) ∨ (J = IteT X.K p ∧ SqT X.K H2 p xs ∧ ((H2 p = some (.tup xs) ∧ ¬ w2.mu p) ∨ SqT X.K NoH p xs))) ∧ ∀ J, Yld X.K J w2 H2 (enumD 0 ds) → R J H2, ?_, ?_⟩
  · refine ⟨w, ε, S, r, (OutM.bnd o).imp fun d io1 S1 H1 r1 x1 o1 v dv => ?_⟩
    cases d with
    | list ds =>
      have k := (OutM.ret o1 r1 : ∀ J, Yld X.K J (w.at io1) H1 (enumD 0 ds) → R J H1)
      cases dv with
      | lst h1 h2 h3 => exact ⟨_, _, rfl, .inl ⟨.of h1, w.at io1, _, _, ds, h3, .inl ⟨rfl, h1, h2⟩, k⟩⟩
    | tuple ds =>
      have k := (OutM.ret o1 r1 : ∀ J, Yld X.K J (w.at io1) H1 (enumD 0 ds) → R J H1)
      obtain ⟨p1, xs, rfl, t1, k1, q1⟩ := dv_tupS dv
      exact ⟨p1, xs, rfl, .inr ⟨t1, w.at io1, p1, xs, ds, k1, .inr ⟨rfl, t1, q1⟩, k⟩⟩
    | _ => exact (show False from o1).elim
  · rintro J H2 s2 I2 ⟨w2, p1, xs, ds, k1, h | h, q⟩
    · obtain ⟨rfl, h1, h2⟩ := h
      obtain ⟨_, _, _, hl⟩ := I2.list (.of h1)
      exact q _ (yld_enum h1 h2 k1 hl)
    · obtain ⟨rfl, t1, h1⟩ := h
      obtain ⟨_, _, _, hl⟩ := I2.tuple t1
      exact q _ (yld_enumT h1 k1 hl)
end
end Tn
end

section
set_option Elab.async false
set_option linter.all false
set_option maxRecDepth 100000
set_option maxHeartbeats 2000000
/-! x[k] op= e, insert, index, sorted(set(..)), a truth less a truth, len(dict(..)) -/
namespace Tn
open PySem PySem.Spec PyProof.Rows L2
def opSubB : D → D → Option D
  | .bool a, .bool b => some (.int ((if a = true then 1 else 0) - (if b = true then 1 else 0)))
  | _, _ => none
def sAugI (i : Nat) (g : D → D → Option D) (fk fe : XE) : XS := fun ε => match ε[i]? with
  | some (.ow (.list xs)) => bnd (fk ε) fun k => bnd (lft (opIx (.list xs) k)) fun x => bnd (fe ε) fun y => bnd (lft (g x y)) fun z => chg i (gPut k z) ε
  | _ => stk
def gIns (k d : D) (xs : List D) : Option (List D) := match k with
  | .int j => if decide (0 ≤ j) && decide (j.toNat < big) && decide (xs.length < big) then some (xs.take j.toNat ++ [d] ++ xs.drop j.toNat) else none
  | _ => none
def sIns (i : Nat) (fk fe : XE) : XS := fun ε => if mutL ε i then bnd (fk ε) fun k => bnd (fe ε) fun d => chg i (gIns k d) ε else stk
def opIndexL (l d : D) : Option D := match l, d with
  | .list ds, .int k => match intsD ds with
    | some ns => (ns.findIdx? (· == k)).map fun j => .int (j : Nat)
    | none => none
  | _, _ => none
/-- l.index(e) -/
def xIndex (fa fe : XE) : XE := fun ε => bnd (fa ε) fun l => match l with
  | .list ds => bnd (fe ε) fun k => lft (opIndexL (.list ds) k)
  | _ => stk
def gSortSet : D → Option (List D)
  | .tuple ds => match intsD ds with
    | some ns => if ns.length < 64 then some (((ns.foldl step_dedup []).mergeSort fun a b => decide (a ≤ b)).map .int) else none
    | none => none
  | _ => none
theorem gives_bb (a b : Bool) : Gives (Builtin.«int.__sub__» ⟨[.bool a, .bool b], []⟩) (.int ((if a = true then (1 : Int) else 0) - (if b = true then 1 else 0))) :=
  .of_wp fun M A E s Q h => by obtain ⟨hp, g, d, tk, os⟩ := s; wp_walk; exact ⟨_, rfl, h⟩
section
variable [TB] {X : Cx} {W : WX}
theorem od_subB : OpR X (binaryOp .Sub) (rD2 X.K opSubB) := by
  intro pins s σ H x y v u Q I rx ry h
  obtain ⟨mu, d1, d2, d, m, h1, h2, e, q⟩ := h
  unfold opSubB at e
  split at e
  · rename_i a b
    cases e
    have e1 : x = .bl a := by
      rcases h1 with h | ⟨a, _, h⟩
      · cases h; rfl
      · obtain ⟨_, _, h, _⟩ := h; cases h
    have e2 : y = .bl b := by
      rcases h2 with h | ⟨a, _, h⟩
      · cases h; rfl
      · obtain ⟨_, _, h, _⟩ := h; cases h
    subst e1 e2
    cases (show v = Value.bool a from rx)
    cases (show u = Value.bool b from ry)
    exact binaryOp_gives (op := .Sub) (T := "bool") rfl rfl F.fills_bool_sub F.slot_bool_sub F.entry_int_sub (F.args_int_sub_2 _ _) (gives_bb a b) trivial ⟨.int _, H, I.tok _, ⟨_, rfl⟩, q _ H (Grow.refl H) (.int _)⟩
  · cases e
def rGetN (K : PySem.W.Frag) : V → V → Hp → VK → Prop := fun o i H Q => ∃ (p : Addr) (xs : List V) (k : Int) (z : V), o = .ref p ∧ i = .int k ∧ SqL K H p xs ∧ atI xs k = some z ∧ Q z H
theorem pget_list : PGet X (rGetN X.K) := by
  intro pins s σ H o i ov iv Q I ro ri h
  obtain ⟨p, xs, k, z, rfl, rfl, hq, he, q⟩ := h
  cases ro
  obtain ⟨t, rfl⟩ := ri
  obtain ⟨its, r, pl, hz⟩ := I.list hq
  obtain ⟨j, h1, h2, h3, h4, h5⟩ := atI_get he
  obtain ⟨w, ew, rw'⟩ := r.get h2
  have hl := r.length
  have hn := line63
  have fin : EP X pins σ Q w s := ⟨z, H, I, rw', q⟩
  by_cases h0 : 0 ≤ k
  · have hj : k.toNat = j := by
      rw [seqIndex_of h0 h5] at h1
      exact Option.some.inj h1
    exact wpAny_getItem_list pl.isList h0 (by omega) (by rw [hj]; simpa using ew) fin
  · have hj : (k + (its.toArray.size : Int)).toNat = j := by
      rw [seqIndex_neg (by omega) h4] at h1
      rw [List.size_toArray, ← hl]
      exact Option.some.inj h1
    exact wpAny_getItem_list_neg pl.isList (by omega) (by rw [List.size_toArray] <;> omega) (by omega) (by rw [hj]; simpa using ew) fin
end
section
variable [TB] {X : Cx} {W : WX} {i : Nat} {x : Str} {e k : Expr} {fe fk : XE} {pos p1 p2 p3 pos' : Pos}
theorem ds_augI {op : Operator} {g : D → D → Option D} (ho : PE X (.Name x p1) (tVar i)) (hk : DE X W k fk) (he : DE X W e fe) (hop : OpR X (inplaceOp op) (rD2 X.K g))
    (ha : ∀ ov iv new, augStore k ov iv new = (do holding [new, ov, iv] (setItem ov iv new); release [new, ov, iv] []; pure .next)) : DS X W (.AugAssign (.Subscript (.Name x p1) k pos') op e pos) (sAugI i g fk fe) := by
  refine ⟨(ps_augS (tip := rD2 X.K g) ho hk.pe pget_list he.pe (fun pins s σ H x y v u Q I rx ry q => hop pins s σ H x y v u Q I rx ry q) set_list ha).weak fun D0 σ H ⟨w, ε, S, r, o⟩ => ?_⟩
  unfold sAugI at o
  cases es : ε[i]? with
  | none => rw [es] at o; exact o.elim
  | some sl =>
    rw [es] at o
    cases sl with
    | ow d0 =>
      obtain ⟨q, h1, a, h2, rfl, us, ds, rfl, h3, h4⟩ := r.sl i _ es
      dsimp only at o
      refine ⟨_, h1, w, ε, S, r, (OutS.exp o).imp fun kd io1 S1 H1 r1 x1 o1 kv kdv => ?_⟩
      have o1 := OutS.exp (ε := ε) (σ := σ) o1
      obtain ⟨m, e1, q1⟩ := OutM.lft o1 r1
      have h3' : H1 a = some (.lst us) := r.same (ε' := ε) (S' := S1) (σ' := σ) x1 h2 h3 nt_lst
      cases kd with
      | int kk =>
        cases kdv
        have e1 : atL ds kk = some m := e1
        obtain ⟨z, e2, dz⟩ := at_of (h4.exx x1) e1
        refine ⟨a, us, kk, z, rfl, rfl, .of h3', e2, w.at io1, ε, S1, r1, (OutS.exp (q1 H1 (Grow.refl H1))).imp fun d io2 S2 H2 r2 x2 o2 y dy => ?_⟩
        have o2 := OutS.exp (ε := ε) (σ := σ) o2
        obtain ⟨d2, e3, k2⟩ := o2.lft r2
        refine ⟨_, m, d, d2, fun a z => r2.muh z, .inl (dz.exx x2), .inl dy, e3, fun v' H' g' dv' => ?_⟩
        obtain ⟨a', us', xs, ys, g1, g2, g3, g4, q⟩ := chg_read (r2.grow g') (k2 H' g')
        rw [h1] at g1; cases g1
        unfold gPut at g4
        dsimp only at g4
        split at g4
        · rename_i j hj
          cases g4
          exact ⟨a, us', _, j, rfl, rfl, g2, by rw [g3.len]; exact hj, q _ (g3.set j dv')⟩
        · cases g4
      | _ => cases e1
    | _ => exact o.elim
theorem ds_ins (ho : PE X (.Name x p1) (tVar i)) (hk : DE X W k fk) (he : DE X W e fe) (hs : swapsWith (.Call (.Attribute (.Name x p1) "insert" p2) [k, e] [] p3) none pos.line X.env = pure false := by rfl) (hbase : attributeBase (.Name x p1) "insert" X.env (eval (.Name x p1) X.env) = eval (.Name x p1) X.env := by rfl)
    (hline : (p2.endLine == p3.line) = true := by rfl) (hst : starEach [k, e] X.env = (false, eval k X.env) :: starEach [e] X.env := by rfl) (hst2 : starEach [e] X.env = (false, eval e X.env) :: starEach [] X.env := by rfl)
    (hfew : ((backTo p3 (starEach [k, e] X.env)).all (fun x => !x.1) && (backToKw p3 (keywordEach [] X.env)).all (fun x => x.1.isSome)
      && decide ([k, e].length + ([] : List Keyword).length + (if ([] : List Keyword).isEmpty then 0 else 1) < 30)) = true := by rfl) :
    DS X W (.Expr (.Call (.Attribute (.Name x p1) "insert" p2) [k, e] [] p3) pos) (sIns i fk fe) := by
  refine ⟨(ps_expr (pe_bm PySem.F.plainAttrs_list PySem.F.slot_list_insert PySem.F.type_list_insert mt_insert ho (pa_cons hk.pe (pa_cons he.pe pa_nil hst2) hst) hbase hfew hline hst (by rw [hst2]; rfl)) hs).weak fun D0 σ H ⟨w, ε, S, r, o⟩ => ?_⟩
  unfold sIns at o
  obtain ⟨hm, o⟩ := o.ite
  obtain ⟨a, us, h1, h2⟩ := mutL_at r hm
  refine ⟨_, h1, .inl ⟨rfl, us, .of h2⟩, w, ε, S, r, (OutS.exp o).imp fun kd io1 S1 H1 r1 x1 o1 kv kdv => ⟨w.at io1, ε, S1, r1, (OutS.exp o1).imp fun d io2 S2 H2 r2 x2 o2 v dv => ?_⟩⟩
  obtain ⟨a', us', xs, ys, g1, g2, g3, g4, q⟩ := chg_read r2 o2
  rw [h1] at g1; cases g1
  unfold gIns at g4
  split at g4
  · rename_i j
    split at g4
    · rename_i hz
      cases g4
      cases kdv
      simp only [Bool.and_eq_true, decide_eq_true_eq] at hz
      have hj : j < 16777216 := by
        have e : j.toNat < 16777216 := hz.1.2
        have z := hz.1.1
        omega
      exact ⟨a, us', j, v, rfl, rfl, g2, by rw [g3.len]; exact Nat.lt_of_lt_of_le hz.2 big_le, hz.1.1, Int.lt_of_lt_of_le hj (by decide), q _ (((g3.take j.toNat).app (.cons dv .nil)).app (g3.drop j.toNat))⟩
    · cases g4
  · cases g4
end
/-! list.index -/
section
variable [TB] {X : Cx} {W : WX} {i : Nat} {x : Str} {a e : Expr} {fa fe : XE} {pos p1 p2 p3 : Pos}
theorem all_flat : ∀ ns : List Int, (ns.map V.int).all flatV = true
  | [] => rfl
  | n :: ns => by rw [List.map_cons, List.all_cons, all_flat ns]; rfl
theorem ix_of {K : PySem.W.Frag} {H : Hp} {mu : Addr → Prop} {ds : List D} {xs : List V} {k : Int} {d : D} {Q : VK} {p : Addr} (hd : Dvs K H mu xs ds) (hp : SqL K H p xs) (e : opIndexL (.list ds) (.int k) = some d)
    (q : ∀ v, Dv K H mu v d → Q v H) : rIndex K (.ref p) [.int k] H Q := by
  unfold opIndexL at e
  dsimp only at e
  split at e
  · rename_i ns hns
    have := dvs_ints hd hns
    subst this
    cases h : ns.findIdx? (· == k) with
    | none => rw [h] at e; cases e
    | some j =>
      rw [h] at e
      cases e
      obtain ⟨hj, h1, h2⟩ := List.findIdx?_eq_some_iff_getElem.mp h
      refine ⟨p, ns.map V.int, .int k, j, .int ns[j], rfl, rfl, hp, rfl, all_flat ns, by rw [List.getElem?_map, List.getElem?_eq_getElem hj]; rfl, h1, fun m z hm hz => ?_, q _ (.int _)⟩
      rw [List.getElem?_map, List.getElem?_eq_getElem (Nat.lt_trans hm hj)] at hz
      cases hz
      have := h2 m hm
      show (ns[m] == k) = false
      simpa using this
  · cases e
theorem de_index (ha : DE X W a fa) (he : DE X W e fe) (hbase : attributeBase a "index" X.env (eval a X.env) = eval a X.env := by rfl)
    (hline : (p2.endLine == p3.line) = true := by rfl) (hst : starEach [e] X.env = (false, eval e X.env) :: starEach [] X.env := by rfl)
    (hfew : ((backTo p3 (starEach [e] X.env)).all (fun x => !x.1) && (backToKw p3 (keywordEach [] X.env)).all (fun x => x.1.isSome)
      && decide ([e].length + ([] : List Keyword).length + (if ([] : List Keyword).isEmpty then 0 else 1) < 30)) = true := by rfl) :
    DE X W (.Call (.Attribute a "index" p2) [e] [] p3) (xIndex fa fe) := by
  refine ⟨(pe_bm PySem.F.plainAttrs_list PySem.F.slot_list_index PySem.F.type_list_index mt_index ha.pe (pa_cons he.pe pa_nil hst) hbase hfew hline hst (by rfl)).weak fun σ H Q ⟨w, ε, S, r, o⟩ => ?_⟩
  refine ⟨w, ε, S, r, (OutM.bnd o).imp fun l io1 S1 H1 r1 x1 o1 v dv => ?_⟩
  cases l with
  | list ds =>
    have o1 : OutM X.K X.mg W (w.at io1) ε σ H1 (bnd (fe ε) (fun k => lft (opIndexL (.list ds) k)) S1) _ := o1
    cases dv with
    | lst h1 h2 h3 =>
      refine ⟨.inl ⟨rfl, _, .of h1⟩, w.at io1, ε, S1, r1, (OutM.bnd o1).imp fun d io2 S2 H2 r2 x2 o2 kv kdv => ?_⟩
      obtain ⟨m, e1, q1⟩ := OutM.lft o2 r2
      have h1' := x2.ext.keep _ _ h2 h1 nt_lst
      cases d with
      | int kk =>
        cases kdv
        exact ix_of (h3.exx x2) (.of h1') e1 fun v hv => q1 H2 (Grow.refl H2) v hv
      | _ => unfold opIndexL at e1; cases e1
  | _ => exact (show False from o1).elim
end
/-! sorted(set(t)), t a tuple of whole numbers -/
def rSetN (K : PySem.W.Frag) (w : World) : List V → Hp → VK → Prop := fun xs H Q => ∃ (l : Addr) (ns : List Int), xs = [V.ref l] ∧ SqT K H l (ns.map V.int) ∧ ns.length < 64 ∧ ∀ p n, H p = none → n ≤ ns.length → Q (.ref p) (upd H p (SetO w p (fun j => decide (j ∈ ns)) n))
section
variable [TB] {X : Cx} {W : WX} {a e : Expr} {fa : XE} {f : XK'} {pos : Pos}
theorem cr_setN (hc : X.calm = true) : CallR X (.type "set") (rSetN X.K X.w) := by
  intro pins s σ H xs us Q I r h
  obtain ⟨l, ns, rfl, hl, h64, q⟩ := h
  rw [Vals.ref1 r]
  obtain ⟨its, rv, pl, hz⟩ := I.tuple hl
  have hn : H s.heap.objs.size = none := I.hok.fresh (Nat.le_refl _)
  refine call_set_tupI ns (I.ok.hd hc) pl (by simpa using RZ.intsAre_vals rv) (by unfold scanBound; omega) fun h' tk c hS hle hk => ?_
  exact ⟨.ref s.heap.objs.size, upd H s.heap.objs.size (SetO X.w s.heap.objs.size (fun j => decide (j ∈ ns)) c), I.laid (t' := tk) hk (Nat.le_refl _) (setO_new hS), rfl, q _ c hn hle⟩
theorem dl_sortSet {p p2 q : Pos} (hc : X.calm = true) (hg : Gl X "sorted") (hm : X.mg "sorted" = none) (hg2 : Gl X "set") (hm2 : X.mg "set" = none) (ha : DE X W a fa)
    (he : starEach [a] X.env = (false, eval a X.env) :: starEach [] X.env := by rfl) (he2 : starEach [.Call (.Name "set" p2) [a] [] q] X.env = (false, eval (.Call (.Name "set" p2) [a] [] q) X.env) :: starEach [] X.env := by rfl) :
    DL X W (.Call (.Name "sorted" p) [.Call (.Name "set" p2) [a] [] q] [] pos) (l1 gSortSet fa) := by
  have hset := pe_callTy (p := p2) (pos := q) (cr_setN hc) hg2 hm2 (by decide +kernel) (pa_cons ha.pe pa_nil he) (by decide) (by decide) he (by rfl)
  refine ⟨(pe_callB (cr_sortedSet hc) hg hm (by decide +kernel) (pa_cons hset pa_nil he2) (by decide) (by decide) he2 (by rfl)).weak fun σ H Q ⟨w, ε, S, r, o⟩ => ?_⟩
  refine ⟨w, ε, S, r, (OutM.bnd o).imp fun d io1 S1 H1 r1 x1 o1 v dv => ?_⟩
  obtain ⟨m, e1, k⟩ := OutM.lft o1 r1
  cases d with
  | tuple ds =>
    obtain ⟨pp, xs, rfl, t, kx, _⟩ := dv_tupS dv
    unfold gSortSet at e1
    dsimp only at e1
    split at e1
    · rename_i ns hns
      have := dvs_ints kx hns
      subst this
      split at e1
      · rename_i hl
        cases e1
        refine ⟨pp, ns, rfl, t, hl, fun p1 n hp1 hn => ⟨p1, _, n, rfl, upd_same, by omega, fun zs p2 hs hm hlen hp2 => ?_⟩⟩
        have g := Grow.upd (o := SetO X.w p1 (fun j => decide (j ∈ ns)) n) hp1
        obtain ⟨d1, d2⟩ := dd_nd ns [] List.nodup_nil
        have nz : zs.Nodup := hs.imp fun {a b} h e => by subst e; exact Int.lt_irrefl _ h
        have e : zs = (ns.foldl step_dedup []).mergeSort fun a b => decide (a ≤ b) := sorted_uniq ((List.perm_ext_iff_of_nodup nz d1).mpr fun k => by rw [hm k, d2 k]; simp) (hs.imp fun h => Int.le_of_lt h)
        rw [e]
        refine k _ g p2 _ hp2 ?_
        generalize (ns.foldl step_dedup []).mergeSort (fun a b => decide (a ≤ b)) = ws
        induction ws with
        | nil => exact .nil
        | cons z zs ih => exact .cons (.int z) ih
      · cases e1
    · cases e1
  | _ => cases e1
/-- len(dict(..)) -/
def xLenKd (f : XK') : XE := fun ε => bnd (f ε) fun ds => ret (.int ds.length)
theorem de_lenKd {p : Pos} (hg : Gl X "len") (hm : X.mg "len" = none) (ha : DKx X W e f)
    (he : starEach [e] X.env = (false, eval e X.env) :: starEach [] X.env := by rfl) : DE X W (.Call (.Name "len" p) [e] [] pos) (xLenKd f) := by
  refine ⟨(pe_callB call_lenD hg hm (by decide +kernel) (pa_cons ha.pe pa_nil he) (by decide) (by decide) he (by rfl)).weak fun σ H Q ⟨w, ε, S, r, o⟩ => ?_⟩
  refine ⟨w, ε, S, r, (OutM.bnd o).imp fun ds io1 S1 H1 r1 x1 o1 p kvs hp hv => ?_⟩
  have g := Grow.upd (o := .dK kvs) hp
  refine ⟨p, kvs, rfl, upd_same, ?_⟩
  exact (o1.grow g).ret (r1.grow g) (.int kvs.length) (by rw [kvs_len hv]; exact .int _)
end
theorem ds_put2 [TB] {X : Cx} {W : WX} {i : Nat} {x : Str} {e k : Expr} {fe fk : XE} {pos p1 p2 : Pos} (ho : PE X (.Name x p1) (tVar i)) (hk : DE X W k fk) (he : DE X W e fe) (hs : swapsWithSole [.Subscript (.Name x p1) k p2] e pos.line X.env = pure false := by rfl) (hw : swappedStores [.Subscript (.Name x p1) k p2] e X.env = pure none := by rfl)
    (h1 : (assignEach [.Subscript (.Name x p1) k p2] X.env).map (·.2) = [assign (.Subscript (.Name x p1) k p2) X.env] := by rfl)
    (ha : ∀ v, assign (.Subscript (.Name x p1) k p2) X.env v = (do
      let ov ← holding [v] (eval (.Name x p1) X.env)
      let iv ← holding [v, ov] (eval k X.env)
      standAt p2
      holding [v, ov, iv] (setItem ov iv v)
      release [v, ov, iv] []) := by intro _; rfl) : DS X W (.Assign [.Subscript (.Name x p1) k p2] e pos) (sPut i fk fe) :=
  ds_put ho hk he hs hw h1 (pg_sub ho hk.pe set_list ha)
end Tn
end

section
set_option Elab.async false
set_option linter.all false
set_option maxRecDepth 100000
set_option maxHeartbeats 2000000
/-! t.index(e), t a tuple of whole numbers, e in it -/
namespace Tn
open PySem PySem.Spec PyProof.Rows L2
def opIndexT (l d : D) : Option D := match l, d with
  | .tuple ds, .int k => match intsD ds with
    | some ns => if k ∈ ns then some (.int (ns.idxOf k : Nat)) else none
    | none => none
  | _, _ => none
def rIndexT (K : PySem.W.Frag) : V → List V → Hp → VK → Prop := fun x xs H Q => ∃ (l : Addr) (ns : List Int) (k : Int), x = V.ref l ∧ xs = [V.int k] ∧ SqT K H l (ns.map V.int) ∧ k ∈ ns ∧ Q (.int (ns.idxOf k : Nat)) H
section
variable [TB] {X : Cx} {W : WX} {a e : Expr} {fa fe : XE} {p2 p3 : Pos}
theorem mt_indexI : MtR X "tuple.index" (rIndexT X.K) := by
  intro pins s σ H x xs v us Q I rx rxs h
  obtain ⟨l, ns, k, rfl, rfl, hl, hk, q⟩ := h
  cases rx
  cases rxs with
  | cons ry rt =>
    cases rt
    obtain ⟨its, rv, pl, hz⟩ := I.tuple hl
    obtain ⟨t, rfl⟩ := ry
    refine PySem.SeqAt.tuple_index_ints pl (by simpa using RZ.intsAre_vals rv) hk ?_
    exact ⟨.int (ns.idxOf k : Nat), H, I.tok _, ⟨_, rfl⟩, q⟩
/-- a module's tuple of whole numbers, an object without a dict -/
structure CoT (K : PySem.W.Frag) (mg : Str → Option Value) (x : Str) (ns : List Int) : Prop where
  ex : ∃ (a : Addr) (o : Obj), mg x = some (.ref a) ∧ K.lookup a = some o ∧ o.cls = .type "tuple" ∧ o.dict = none ∧ SqT K NoH a (ns.map V.int)
theorem cot_ints {K : PySem.W.Frag} {h : Heap} {mg : Str → Option Value} {x : Str} {a : Addr} {o : Obj} {d : D} {ns : List Int} (X : K.In h) (G : h.Ns mainGlobals mg) (e : PySem.W.nsIn K mainGlobals x = some (some (.ref a))) (hk : K.lookup a = some o) (hc : o.cls = .type "tuple") (hn : o.dict = none) (n : Nat) (hd : datIn K n (.ref a) = some d) (hi : d = .tuple (ns.map .int)) : CoT K mg x ns := by
  subst hi
  obtain ⟨v, r, k⟩ := (datIn_ok n).1 _ _ hd
  have k0 := k NoH fun _ => False
  obtain ⟨p, xs, rfl, t, kx, _⟩ := dv_tupS k0
  cases r
  have hx : intsD (ns.map .int) = some ns := by
    clear k k0 kx t hd
    induction ns with
    | nil => rfl
    | cons n ns ih =>
      rw [List.map_cons]
      show (intsD (ns.map .int)).map (n :: ·) = _
      rw [ih]; rfl
  have := dvs_ints kx hx
  subst this
  exact ⟨⟨_, o, PySem.W.mg_of X G e, hk, hc, hn, t⟩⟩
theorem de_indexC {x : Str} {p1 : Pos} {ns : List Int} (m : CoT X.K X.mg x ns) (hg : Gl X x) (he : DE X W e fe) (hbase : attributeBase (.Name x p1) "index" X.env (eval (.Name x p1) X.env) = eval (.Name x p1) X.env := by rfl)
    (hline : (p2.endLine == p3.line) = true := by rfl) (hst : starEach [e] X.env = (false, eval e X.env) :: starEach [] X.env := by rfl)
    (hfew : ((backTo p3 (starEach [e] X.env)).all (fun x => !x.1) && (backToKw p3 (keywordEach [] X.env)).all (fun x => x.1.isSome)
      && decide ([e].length + ([] : List Keyword).length + (if ([] : List Keyword).isEmpty then 0 else 1) < 30)) = true := by rfl) (hdb : (x == ("__debug__" : Str)) = false := by decide) :
    DE X W (.Call (.Attribute (.Name x p1) "index" p2) [e] [] p3) (x2 opIndexT (xK (.tuple (ns.map .int))) fe) := by
  obtain ⟨a, o, h1, h2, h3, h4, h5⟩ := m.ex
  refine ⟨(pe_bm PySem.F.plainAttrs_tuple PySem.F.slot_tuple_index PySem.F.type_tuple_index mt_indexI (pe_glob (v := V.ref a) hg h1 rfl hdb) (pa_cons he.pe pa_nil hst) hbase hfew hline hst (by rfl)).weak fun σ H Q ⟨w, ε, S, r, o1⟩ => ?_⟩
  have o1 : OutM X.K X.mg W w ε σ H (bnd (fe ε) (fun k => lft (opIndexT (.tuple (ns.map .int)) k)) S) _ := o1
  refine ⟨.inr (.inl ⟨rfl, o, h2, h3, h4⟩), w, ε, S, r, (OutM.bnd o1).imp fun d io2 S2 H2 r2 x2 o2 kv kdv => ?_⟩
  obtain ⟨m, e1, q1⟩ := OutM.lft o2 r2
  have hx : ∀ ns : List Int, intsD (ns.map .int) = some ns := fun ns => by
    induction ns with
    | nil => rfl
    | cons n ns ih =>
      rw [List.map_cons]
      show (intsD (ns.map .int)).map (n :: ·) = _
      rw [ih]; rfl
  cases d with
  | int kk =>
    unfold opIndexT at e1
    dsimp only at e1
    rw [hx ns] at e1
    dsimp only at e1
    split at e1
    · rename_i hm
      cases e1
      cases kdv
      exact ⟨a, ns, _, rfl, rfl, SqT.ofK h5, hm, q1 H2 (Grow.refl H2) _ (.int _)⟩
    · cases e1
  | _ => unfold opIndexT at e1; cases e1
end
end Tn
end

section
set_option Elab.async false
set_option linter.all false
set_option maxRecDepth 100000
set_option maxHeartbeats 2000000
/-! a module's dict with text keys: asked, read, walked -/
namespace Tn
open PySem PySem.Spec PyProof.Rows L2
def opGetC (ps : List (Str × D)) : D → Option D
  | .str z => (ps.find? fun p => decide (p.1 = z)).map (·.2)
  | _ => none
def opInC (ps : List (Str × D)) : D → Option D
  | .str z => some (.bool (ps.find? fun p => decide (p.1 = z)).isSome)
  | _ => none
def opNinC (ps : List (Str × D)) : D → Option D
  | .str z => some (.bool (!(ps.find? fun p => decide (p.1 = z)).isSome))
  | _ => none
def iKeyC (ps : List (Str × D)) : XL := fun _ => ret (ps.map fun p => .str p.1)
def lkIn (K : PySem.W.Frag) : List DictEntry → Option (List (Str × D))
  | [] => some []
  | e :: r => match e.key with
    | .str x _ => if PyData.strOk x = true then (match datIn K 50 e.val with
      | some d => (lkIn K r).map ((x, d) :: ·)
      | none => none) else none
    | _ => none
/-- a module's dict -/
structure CoK (K : PySem.W.Frag) (w : World) (mg : Str → Option Value) (x : Str) (ps : List (Str × D)) : Prop where
  ex : ∃ (d : Addr) (es : Array DictEntry) (n : Nat), mg x = some (.ref d) ∧ KDict K w d es n ∧ lkIn K es.toList = some ps ∧ (ps.map (·.1)).Nodup ∧ ps.length ≤ sizeLine
theorem cok_of {K : PySem.W.Frag} {w : World} {h : Heap} {mg : Str → Option Value} {x : Str} {d : Addr} {es : Array DictEntry} {n : Nat} {ps : List (Str × D)} (X : K.In h) (G : h.Ns mainGlobals mg) (a : PySem.W.nsIn K mainGlobals x = some (some (.ref d))) (hk : K.lookup d = some ⟨.type "dict", none, .dict es n, #[]⟩) (hl : PySem.W.KeysLit w.params es.toList) (lo : (d == sysModules) = false) (hp : lkIn K es.toList = some ps) (nd : (ps.map (·.1)).Nodup) (ln : ps.length ≤ sizeLine) : CoK K w mg x ps :=
  ⟨⟨d, es, n, PySem.W.mg_of X G a, ⟨hk, hl, lo⟩, hp, nd, ln⟩⟩
theorem isStr_str {x z : Str} {t : Tok} : (Value.str x t).isStr z = decide (x = z) := by
  show (x == z) = decide (x = z)
  by_cases h : x = z
  · subst h; simp
  · rw [decide_eq_false h]
    exact beq_eq_false_iff_ne.mpr h
theorem lk_find {K : PySem.W.Frag} {z : Str} : ∀ {es : List DictEntry} {ps : List (Str × D)}, lkIn K es = some ps → (match ps.find? (fun p => decide (p.1 = z)) with
    | some p => ∃ e, es.find? (·.key.isStr z) = some e ∧ datIn K 50 e.val = some p.2
    | none => es.find? (·.key.isStr z) = none ∧ es.any (·.refKey) = false)
  | [], ps, h => by cases h; exact ⟨rfl, rfl⟩
  | e :: es, ps, h => by
    unfold lkIn at h
    cases hk : e.key with
    | str x t =>
      rw [hk] at h
      dsimp only at h
      split at h
      · cases hd : datIn K 50 e.val with
        | none => rw [hd] at h; cases h
        | some d =>
          rw [hd] at h
          dsimp only at h
          cases hr : lkIn K es with
          | none => rw [hr] at h; cases h
          | some qs =>
            rw [hr] at h
            cases h
            have ih := lk_find (z := z) hr
            have hs : e.key.isStr z = decide (x = z) := by rw [hk]; exact isStr_str
            have hf : e.refKey = false := by unfold DictEntry.refKey; rw [hk]
            rw [List.find?_cons, List.find?_cons, List.any_cons, hs, hf]
            dsimp only
            by_cases c : x = z
            · rw [decide_eq_true c]
              exact ⟨e, rfl, hd⟩
            · rw [decide_eq_false c]
              exact ih
      · cases h
    | _ => rw [hk] at h; cases h
section
variable [TB] {X : Cx} {W : WX} {a e : Expr} {fa fe : XE} {pos p1 : Pos} {x : Str} {ps : List (Str × D)}
theorem ns_find {K : PySem.W.Frag} {d : Addr} {es : Array DictEntry} {n : Nat} (h : K.lookup d = some ⟨.type "dict", none, .dict es n, #[]⟩) (hl : lkIn K es.toList = some ps) (z : Str) : (match ps.find? (fun p => decide (p.1 = z)) with
    | some p => ∃ u, PySem.W.nsIn K d z = some (some u) ∧ datIn K 50 u = some p.2
    | none => PySem.W.nsIn K d z = some none) := by
  have q := lk_find (z := z) hl
  unfold PySem.W.nsIn
  rw [h]
  dsimp only
  cases hf : ps.find? (fun p => decide (p.1 = z)) with
  | none =>
    rw [hf] at q
    obtain ⟨q1, q2⟩ := q
    rw [q1, q2]; rfl
  | some p =>
    rw [hf] at q
    obtain ⟨e, q1, q2⟩ := q
    rw [q1]
    exact ⟨e.val, rfl, q2⟩
theorem de_inC (m : CoK X.K X.w X.mg x ps) (hg : Gl X x) (he : DE X W e fe) (hdb : (x == ("__debug__" : Str)) = false := by decide) : DE X W (.Compare e [.In] [.Name x p1] pos) (x1 (opInC ps) fe) := by
  obtain ⟨d, es, n, h1, D, h3, h4, h5⟩ := m.ex
  refine ⟨(pe_cmpR (op_in_kd D) he.pe (pe_glob (v := V.ref d) hg h1 rfl hdb) rfl).weak fun σ H Q ⟨w, ε, S, r, o⟩ => ?_⟩
  refine ⟨w, ε, S, r, (OutM.bnd o).imp fun d1 io1 S1 H1 r1 x1 o1 v hv => ?_⟩
  obtain ⟨m, e1, q⟩ := OutM.lft o1 r1
  cases d1 with
  | str z =>
    cases hv
    cases e1
    have nf := ns_find D.at_ h3 z
    cases hf : ps.find? (fun p => decide (p.1 = z)) with
    | none =>
      rw [hf] at nf q
      exact ⟨z, none, rfl, rfl, nf, q H1 (Grow.refl H1) _ (.bl _)⟩
    | some p =>
      rw [hf] at nf q
      obtain ⟨u, n1, n2⟩ := nf
      exact ⟨z, some u, rfl, rfl, n1, q H1 (Grow.refl H1) _ (.bl _)⟩
  | _ => cases e1
theorem de_ninC (m : CoK X.K X.w X.mg x ps) (hg : Gl X x) (he : DE X W e fe) (hdb : (x == ("__debug__" : Str)) = false := by decide) : DE X W (.Compare e [.NotIn] [.Name x p1] pos) (x1 (opNinC ps) fe) := by
  obtain ⟨d, es, n, h1, D, h3, h4, h5⟩ := m.ex
  refine ⟨(pe_cmpR (op_notIn_kd D) he.pe (pe_glob (v := V.ref d) hg h1 rfl hdb) rfl).weak fun σ H Q ⟨w, ε, S, r, o⟩ => ?_⟩
  refine ⟨w, ε, S, r, (OutM.bnd o).imp fun d1 io1 S1 H1 r1 x1 o1 v hv => ?_⟩
  obtain ⟨m, e1, q⟩ := OutM.lft o1 r1
  cases d1 with
  | str z =>
    cases hv
    cases e1
    have nf := ns_find D.at_ h3 z
    cases hf : ps.find? (fun p => decide (p.1 = z)) with
    | none =>
      rw [hf] at nf q
      exact ⟨z, none, rfl, rfl, nf, q H1 (Grow.refl H1) _ (.bl _)⟩
    | some p =>
      rw [hf] at nf q
      obtain ⟨u, n1, n2⟩ := nf
      exact ⟨z, some u, rfl, rfl, n1, q H1 (Grow.refl H1) _ (.bl _)⟩
  | _ => cases e1
theorem ix_kd {d : Addr} {es : Array DictEntry} {n : Nat} (D : KDict X.K X.w d es n) : IxR X (fun x y H Q => ∃ (z : Str) (u0 : Value) (v0 : V), x = .ref d ∧ y = .str z ∧ PySem.W.nsIn X.K d z = some (some u0) ∧ RelV v0 u0 ∧ Q v0 H) := by
  intro value slice pins s σ H x y v u Q I rx ry h hs
  obtain ⟨z, u0, v0, rfl, rfl, e, r, q⟩ := h
  cases rx
  obtain ⟨t, rfl⟩ := ry
  have hm := PySem.W.mapOf_K (prog := X.prog) (w := X.w) I.kIn D.at_ D.lit
  exact tail_any hm.typeIs PySem.F.slot_dict_getitem.lookup (wpAny_getItem_of (PySem.strKind_is X.prog X.w z t) hm (PySem.W.find_K D.at_ e) ⟨v0, H, I.tok _, r, q⟩) hs
theorem de_getC (m : CoK X.K X.w X.mg x ps) (hg : Gl X x) (he : DE X W e fe) (hs : PlainIx e) (hdb : (x == ("__debug__" : Str)) = false := by decide) : DE X W (.Subscript (.Name x p1) e pos) (x1 (opGetC ps) fe) := by
  obtain ⟨d, es, n, h1, D, h3, h4, h5⟩ := m.ex
  refine ⟨(pe_ix (ix_kd D) (pe_glob (v := V.ref d) hg h1 rfl hdb) he.pe hs).weak fun σ H Q ⟨w, ε, S, r, o⟩ => ?_⟩
  refine ⟨w, ε, S, r, (OutM.bnd o).imp fun d1 io1 S1 H1 r1 x1 o1 v hv => ?_⟩
  obtain ⟨m, e1, q⟩ := OutM.lft o1 r1
  cases d1 with
  | str z =>
    cases hv
    have nf := ns_find D.at_ h3 z
    have e1 : (ps.find? fun p => decide (p.1 = z)).map (·.2) = some m := e1
    cases hf : ps.find? (fun p => decide (p.1 = z)) with
    | none => rw [hf] at e1; cases e1
    | some p =>
      rw [hf] at nf e1
      cases e1
      obtain ⟨u, n1, n2⟩ := nf
      obtain ⟨v, rv, dv⟩ := (datIn_ok 50).1 _ _ n2
      exact ⟨z, u, v, rfl, rfl, n1, rv, q H1 (Grow.refl H1) _ (dv _ _)⟩
  | _ => cases e1
/-! walked -/
def ItC (ps : List (Str × D)) : It :=
  ⟨fun i H => i < ps.length, fun i H x H' => H' = H ∧ ∃ p, ps[i]? = some p ∧ x = .str p.1, fun i H => ps.length ≤ i⟩
theorem lk_len {K : PySem.W.Frag} : ∀ {es : List DictEntry} {ps : List (Str × D)}, lkIn K es = some ps → es.length = ps.length
  | [], ps, h => by cases h; rfl
  | e :: es, ps, h => by
    unfold lkIn at h
    cases hk : e.key with
    | str x t =>
      rw [hk] at h
      dsimp only at h
      split at h
      · cases hd : datIn K 50 e.val with
        | none => rw [hd] at h; cases h
        | some d =>
          rw [hd] at h
          dsimp only at h
          cases hr : lkIn K es with
          | none => rw [hr] at h; cases h
          | some qs =>
            rw [hr] at h
            cases h
            have ih := lk_len hr
            rw [List.length_cons, List.length_cons, ih]
      · cases h
    | _ => rw [hk] at h; cases h
/-- the entries as they stand -/
theorem lk_pairs {P : Program} {w : World} {K : PySem.W.Frag} : ∀ {es : List DictEntry} {ps : List (Str × D)}, lkIn K es = some ps → ∃ vs : List (Str × Value), Pairs (strKind P w) es vs ∧ vs.map (·.1) = ps.map (·.1)
  | [], ps, h => by cases h; exact ⟨[], .nil, rfl⟩
  | e :: es, ps, h => by
    unfold lkIn at h
    cases hk : e.key with
    | str x t =>
      rw [hk] at h
      dsimp only at h
      split at h
      · cases hd : datIn K 50 e.val with
        | none => rw [hd] at h; cases h
        | some d =>
          rw [hd] at h
          dsimp only at h
          cases hr : lkIn K es with
          | none => rw [hr] at h; cases h
          | some qs =>
            rw [hr] at h
            cases h
            obtain ⟨vs, ih, e2⟩ := lk_pairs (P := P) (w := w) hr
            exact ⟨(x, e.val) :: vs, .cons (by rw [hk]; exact PySem.strKind_is P w x t) rfl ih, by rw [List.map_cons, List.map_cons, e2]⟩
      · cases h
    | _ => rw [hk] at h; cases h
theorem lk_ok {K : PySem.W.Frag} : ∀ {es : List DictEntry} {ps : List (Str × D)}, lkIn K es = some ps → ∀ p ∈ ps, PyData.strOk p.1 = true
  | [], ps, h => by cases h; exact fun p hp => (List.not_mem_nil hp).elim
  | e :: es, ps, h => by
    unfold lkIn at h
    cases hk : e.key with
    | str x t =>
      rw [hk] at h
      dsimp only at h
      split at h
      · rename_i hs
        cases hd : datIn K 50 e.val with
        | none => rw [hd] at h; cases h
        | some d =>
          rw [hd] at h
          dsimp only at h
          cases hr : lkIn K es with
          | none => rw [hr] at h; cases h
          | some qs =>
            rw [hr] at h
            cases h
            have ih := lk_ok hr
            intro p hp
            rcases List.mem_cons.mp hp with rfl | hp
            · exact hs
            · exact ih p hp
      · cases h
    | _ => rw [hk] at h; cases h
theorem dictAt_K {P : Program} {w : World} {K : PySem.W.Frag} {h : Heap} {d : Addr} {es : Array DictEntry} {n : Nat} (X : K.In h) (D : KDict K w d es n) (hl : lkIn K es.toList = some ps) (nd : (ps.map (·.1)).Nodup) : ∃ vs : List (Str × Value), h.DictAt (strKind P w) d vs n ∧ vs.map (·.1) = ps.map (·.1) := by
  obtain ⟨vs, pr, e⟩ := lk_pairs (P := P) (w := w) hl
  refine ⟨vs, ⟨_, es, X _ _ D.at_, ⟨rfl, rfl, rfl⟩, rfl, fun e he => ?_, pr, by rw [e]; exact nd⟩, e⟩
  obtain ⟨x, t, e1, e2⟩ := D.lit.all e (Array.mem_toList_iff.mpr he)
  exact ⟨x, by rw [e1]; exact PySem.strKind_is P w x t, e2⟩
theorem turn_keysC {P : Program} {w : World} {K : PySem.W.Frag} {tg : Expr} {d : Addr} {es : Array DictEntry} {n : Nat} (D : KDict K w d es n) (hl : lkIn K es.toList = some ps) (nd : (ps.map (·.1)).Nodup) (it : Addr) : Turn P w K tg (ItC ps) [it] it (fun i h => h.IsKeyIter it d i ps.length n) where
  mem := by simp
  obj := fun i h st b hb => by
    have e : b = it := by simpa using hb
    subst e
    obtain ⟨oi, e, c, dd⟩ := st
    exact ⟨oi, e, fun v z => by rw [dd] at z; cases z⟩
  keep := fun i h h' st k => st.at fun oi e => k it (by simp) oi e
  item := by
    intro X hP hw hK hc i pins s σ H E I hf st hg
    subst hP hw hK
    have hi : i < ps.length := hg
    obtain ⟨f0, f1, f2, f3, f4, f5⟩ := hf it (by simp)
    obtain ⟨vs, hm, ev⟩ := dictAt_K (P := X.prog) I.kIn D hl nd
    have hlen : ps.length = vs.length := by
      have := congrArg List.length ev
      rw [List.length_map, List.length_map] at this
      exact this.symm
    obtain ⟨⟨k, u⟩, hkv⟩ : ∃ p, vs[i]? = some p := ⟨vs[i]'(by omega), List.getElem?_eq_getElem (by omega)⟩
    rw [hlen] at st
    refine wpAny_pyNext_dict_item st hm hkv fun key h' hkey st' sb => ?_
    have I1 : Inv X pins σ H { s with heap := h' } := I.turned (t' := s.toks) (fun b ob hb e => (sb.2 b hb).trans e) f0 f1 f3 f4 f5
    obtain ⟨oi, e, c, dd⟩ := id st'
    obtain ⟨t, rfl⟩ := Value.isStrOf_shape (show Value.isStrOf k key = true from hkey)
    have ek : ps[i]?.map (·.1) = some k := by
      have : (ps.map (·.1))[i]? = (vs.map (·.1))[i]? := by rw [ev]
      rw [List.getElem?_map, List.getElem?_map, hkv] at this
      exact this
    obtain ⟨p, hp, rfl⟩ : ∃ p, ps[i]? = some p ∧ p.1 = k := by
      cases hq : ps[i]? with
      | none => rw [hq] at ek; cases ek
      | some p => rw [hq] at ek; exact ⟨p, rfl, Option.some.inj ek⟩
    refine ⟨_, rfl, go_of (s := { s with heap := h' }) e c dd (by decide) ⟨.str p.1, H, I1, ⟨t, rfl⟩, ⟨rfl, p, hp, rfl⟩, ?_, fun b hb => (hf b hb).1⟩⟩
    show h'.IsKeyIter it d (i + 1) ps.length _
    rw [hlen]
    exact st'
  done := by
    intro X hP hw hK hc i pins s σ H E I hf st hg
    subst hP hw hK
    have hi : ps.length ≤ i := hg
    obtain ⟨f0, f1, f2, f3, f4, f5⟩ := hf it (by simp)
    have hgd := I.kIn _ _ D.at_
    have hsz : es.size = ps.length := by
      have := lk_len hl
      rw [Array.length_toList] at this
      exact this
    exact next_key_end (I.ok.hd hc) st hgd rfl hsz hi fun h' eb => ⟨rfl, I.turned (t' := s.toks) (fun b ob hb e => eb b ob hb e) f0 f1 f3 f4 f5⟩
  self := fun A i s Q E st h => wpAny_pyIter_keyiter st h
theorem di_keyC {tg : Expr} (m : CoK X.K X.w X.mg x ps) (hg : Gl X x) (hdb : (x == ("__debug__" : Str)) = false := by decide) : DI X W tg (.Name x p1) (iKeyC ps) := by
  obtain ⟨d, es, n, h1, D, h3, h4, h5⟩ := m.ex
  refine ⟨⟨fun pins s σ H R I ⟨w, ε, S, r, o⟩ => ?_⟩⟩
  refine thn ((pe_glob (v := V.ref d) hg h1 rfl hdb).run pins s σ H (fun v H' => v = .ref d ∧ H' = H) I ⟨rfl, rfl⟩) fun u s1 ⟨y, H1, I1, rx, e1, e2⟩ => ?_
  subst e1 e2
  obtain rfl : u = Value.ref d := rx
  have hgd := I1.kIn _ _ D.at_
  have hsz : es.size = ps.length := by
    have := lk_len h3
    rw [Array.length_toList] at this
    exact this
  refine iter_keys D.low hgd ⟨rfl, rfl, rfl⟩ rfl (pi_one (tk := s1.toks) I1 _ (turn_keysC D h3 h4 _) ⟨_, Heap.get?_push_size _ rfl, rfl, by rw [hsz] <;> rfl⟩ ?_)
  refine (OutM.ret o r : ∀ J, Yld X.K J (w.at w.io) _ _ → R J _) _ ⟨by rw [List.length_map]; exact h5, fun i w2 H2 x m => ⟨fun dd hd => ?_, fun hi => ?_⟩⟩
  · rw [List.getElem?_map] at hd
    cases hp : ps[i]? with
    | none => rw [hp] at hd; cases hd
    | some p =>
      rw [hp] at hd
      cases hd
      refine ⟨(List.getElem?_eq_some_iff.mp hp).1, fun y H3 ⟨e1, p2, e2, e3⟩ => ?_⟩
      subst e1 e3
      rw [hp] at e2
      cases e2
      exact ⟨Grow.refl _, .str _ (lk_ok h3 p (List.mem_of_getElem? hp))⟩
  · rw [List.length_map] at hi
    exact hi
end
end Tn
end

section
set_option Elab.async false
set_option linter.all false
set_option maxRecDepth 100000
set_option maxHeartbeats 2000000
/-! a sign in a text; a text walked -/
namespace Tn
open PySem PySem.Spec PyProof.Rows L2
def signOf : Str → Option Nat
  | ⟨⟨[c]⟩⟩ => some c
  | _ => none
def opInS : D → D → Option D
  | .str x, .str z => (signOf x).map fun c => .bool (decide (c ∈ z.cps.toList))
  | _, _ => none
def opNinS : D → D → Option D
  | .str x, .str z => (signOf x).map fun c => .bool (!decide (c ∈ z.cps.toList))
  | _, _ => none
/-- the signs of a text -/
def sgns (z : Str) : List D := z.cps.toList.map fun c => .str ⟨#[c]⟩
def iStrD (a : XE) : XL := fun ε => bnd (a ε) fun x => match x with
  | .str z => if z.cps.size ≤ big then ret (sgns z) else stk
  | _ => stk
theorem signOf_eq {x : Str} {c : Nat} (h : signOf x = some c) : x = ⟨#[c]⟩ := by
  unfold signOf at h
  split at h
  · cases h; rfl
  · cases h
section
variable [TB] {X : Cx} {W : WX} {a e : Expr} {fa fe : XE} {pos : Pos}
theorem od_inS : OpR X (compareOp .In) (rD2 X.K opInS) := by
  intro pins s σ H x y v u Q I rx ry h
  obtain ⟨mu, d1, d2, d, m, h1, h2, e, q⟩ := h
  unfold opInS at e
  split at e
  · rename_i a z
    obtain ⟨e1, s1⟩ := h1.str
    obtain ⟨e2, s2⟩ := h2.str
    cases hc : signOf a with
    | none => rw [hc] at e; cases e
    | some c =>
      rw [hc] at e
      cases e
      have := signOf_eq hc
      subst this
      exact op_in_sign pins s σ H x y v u Q I rx ry ⟨c, z, e1, e2, q _ H (Grow.refl H) (.bl _)⟩
  · cases e
theorem od_ninS : OpR X (compareOp .NotIn) (rD2 X.K opNinS) := by
  intro pins s σ H x y v u Q I rx ry h
  obtain ⟨mu, d1, d2, d, m, h1, h2, e, q⟩ := h
  unfold opNinS at e
  split at e
  · rename_i a z
    obtain ⟨e1, s1⟩ := h1.str
    obtain ⟨e2, s2⟩ := h2.str
    cases hc : signOf a with
    | none => rw [hc] at e; cases e
    | some c =>
      rw [hc] at e
      cases e
      have := signOf_eq hc
      subst this
      exact op_notIn_sign pins s σ H x y v u Q I rx ry ⟨c, z, e1, e2, q _ H (Grow.refl H) (.bl _)⟩
  · cases e
theorem hb_inS : ∀ x y d, opInS x y = some d → ∃ b, d = .bool b := fun x y d h => by
  unfold opInS at h
  split at h
  · rename_i a z
    cases hc : signOf a with
    | none => rw [hc] at h; cases h
    | some c => rw [hc] at h; cases h; exact ⟨_, rfl⟩
  · cases h
theorem hb_ninS : ∀ x y d, opNinS x y = some d → ∃ b, d = .bool b := fun x y d h => by
  unfold opNinS at h
  split at h
  · rename_i a z
    cases hc : signOf a with
    | none => rw [hc] at h; cases h
    | some c => rw [hc] at h; cases h; exact ⟨_, rfl⟩
  · cases h
theorem strOk_sgn {z : Str} (h : PyData.strOk z = true) {c : Nat} (hc : c ∈ z.cps.toList) : PyData.strOk ⟨#[c]⟩ = true := by
  unfold PyData.strOk at h ⊢
  rw [Array.all_eq_true'] at h
  have := h c (Array.mem_toList_iff.mp hc)
  rw [Array.all_eq_true']
  intro x hx
  have : x = c := by simpa using hx
  subst this
  exact h x (Array.mem_toList_iff.mp hc)
theorem di_str {tg : Expr} (ha : DE X W a fa) : DI X W tg a (iStrD fa) := by
  refine ⟨pi_imp (pi_str ha.pe) fun pins s σ H R I ⟨w, ε, S, r, o⟩ => ?_⟩
  refine ⟨fun J H2 => ∃ (w2 : Wd) (z : Str), J = Its z ∧ PyData.strOk z = true ∧ z.cps.size ≤ big ∧ ∀ J, Yld X.K J w2 H2 (sgns z) → R J H2, ?_, ?_⟩
  · refine ⟨w, ε, S, r, (OutM.bnd o).imp fun d io1 S1 H1 r1 x1 o1 v dv => ?_⟩
    cases d with
    | str z =>
      have o1 : OutM X.K X.mg W (w.at io1) ε σ H1 ((if z.cps.size ≤ big then ret (sgns z) else stk) S1) _ := o1
      by_cases hz : z.cps.size ≤ big
      · rw [if_pos hz] at o1
        have k := (OutM.ret o1 r1 : ∀ J, Yld X.K J (w.at io1) H1 (sgns z) → R J H1)
        cases dv with
        | str _ hs => exact ⟨z, rfl, w.at io1, z, rfl, hs, hz, k⟩
      · rw [if_neg hz] at o1; exact o1.elim
    | _ => exact (show False from o1).elim
  · rintro J H2 s2 I2 ⟨w2, z, rfl, hs, hz, k⟩
    refine k _ ⟨by unfold sgns; rw [List.length_map, Array.length_toList]; exact Nat.le_trans hz big_le, fun i w3 H3 x m => ⟨fun d hd => ?_, fun hi => ?_⟩⟩
    · unfold sgns at hd
      rw [List.getElem?_map] at hd
      cases hc : z.cps.toList[i]? with
      | none => rw [hc] at hd; cases hd
      | some c =>
        rw [hc] at hd
        cases hd
        have hc2 : z.cps[i]? = some c := by rw [← Array.getElem?_toList]; exact hc
        refine ⟨(Array.getElem?_eq_some_iff.mp hc2).1, fun y H4 ⟨e1, c2, e2, e3⟩ => ?_⟩
        subst e1 e3
        rw [hc2] at e2
        cases e2
        exact ⟨Grow.refl _, .str _ (strOk_sgn hs (List.mem_of_getElem? hc))⟩
    · unfold sgns at hi
      rw [List.length_map, Array.length_toList] at hi
      exact hi
end
end Tn
end

section
set_option Elab.async false
set_option linter.all false
set_option maxRecDepth 100000
set_option maxHeartbeats 2000000
/-! sorted() as the kernel can work it out -/
namespace Tn
open PySem PySem.Spec PyProof.Rows L2
def insD (x : D) : List D → List D
  | [] => [x]
  | y :: ys => if PySem.W.dataLe false (fun d => d) x y = true then x :: y :: ys else y :: insD x ys
def kSortD : List D → List D
  | [] => []
  | x :: xs => insD x (kSortD xs)
theorem dle_eq (x y : D) : PySem.W.dataLe false (fun d => d) x y = !PySem.W.dataLt y x := rfl
theorem dle_trans (a b c : D) (h1 : PySem.W.dataLe false (fun d => d) a b = true) (h2 : PySem.W.dataLe false (fun d => d) b c = true) : PySem.W.dataLe false (fun d => d) a c = true := by
  rw [dle_eq, Bool.not_eq_true'] at *
  cases h : PySem.W.dataLt c a with
  | false => rfl
  | true =>
    rcases lex_negTrans (O := itemOrd) _ (PySem.W.keyToks b) _ h with q | q
    · have h2 : PySem.W.dataLt c b = false := h2
      unfold PySem.W.dataLt at h2
      rw [q] at h2; cases h2
    · have h1 : PySem.W.dataLt b a = false := h1
      unfold PySem.W.dataLt at h1
      rw [q] at h1; cases h1
theorem dle_total (a b : D) : (PySem.W.dataLe false (fun d => d) a b || PySem.W.dataLe false (fun d => d) b a) = true := by
  rw [dle_eq, dle_eq]
  cases h : PySem.W.dataLt b a with
  | false => rfl
  | true =>
    cases h2 : PySem.W.dataLt a b with
    | false => rfl
    | true =>
      have := lex_trans (O := itemOrd) _ _ _ h h2
      rw [lex_irrefl] at this
      cases this
theorem ins_mid (x : D) : ∀ (l1 l2 : List D), (∀ b ∈ l1, PySem.W.dataLe false (fun d => d) x b = false) → (∀ b ∈ l2, PySem.W.dataLe false (fun d => d) x b = true) → insD x (l1 ++ l2) = l1 ++ x :: l2
  | [], [], _, _ => rfl
  | [], y :: ys, _, h2 => by
    show insD x (y :: ys) = _
    unfold insD
    rw [if_pos (h2 y List.mem_cons_self)]; rfl
  | y :: l1, l2, h1, h2 => by
    show insD x (y :: (l1 ++ l2)) = _
    unfold insD
    rw [if_neg (by rw [h1 y List.mem_cons_self]; exact Bool.false_ne_true), ins_mid x l1 l2 (fun b hb => h1 b (List.mem_cons_of_mem _ hb)) h2]; rfl
theorem ksort_eq : ∀ xs : List D, sortD xs = kSortD xs
  | [] => by unfold sortD kSortD; exact List.mergeSort_nil
  | x :: xs => by
    have ih := ksort_eq xs
    unfold sortD at *
    obtain ⟨l1, l2, e1, e2, h⟩ := List.mergeSort_cons (le := PySem.W.dataLe false fun d => d) dle_trans dle_total x xs
    have pw := List.pairwise_mergeSort (le := PySem.W.dataLe false fun d => d) dle_trans dle_total (x :: xs)
    rw [e1] at pw
    rw [e1]
    show _ = insD x (kSortD xs)
    rw [← ih, e2, ins_mid]
    · intro b hb
      have := h b hb
      simpa using this
    · intro b hb
      exact (List.pairwise_cons.mp (List.pairwise_append.mp pw).2.1).1 b hb
def gSortK : D → Option (List D)
  | .list xs => if sortOk xs then some (kSortD xs) else none
  | .tuple xs => if sortOk xs then some (kSortD xs) else none
  | _ => none
theorem gSortK_eq : gSort = gSortK := by
  funext d
  cases d with
  | list xs => show (if sortOk xs = true then some (sortD xs) else none) = (if sortOk xs = true then some (kSortD xs) else none); rw [ksort_eq]
  | tuple xs => show (if sortOk xs = true then some (sortD xs) else none) = (if sortOk xs = true then some (kSortD xs) else none); rw [ksort_eq]
  | _ => rfl
theorem od_sortK [TB] {X : Cx} (hu : X.A.units + 100 < cLine) : CallR X (.builtin "sorted") (rL1 X.K gSortK) := gSortK_eq ▸ od_sort hu
end Tn
end

section
set_option Elab.async false
set_option linter.all false
set_option maxRecDepth 100000
set_option maxHeartbeats 2000000
/-! {text: number, ..}.get(k, number) -/
namespace Tn
open PySem PySem.Spec PyProof.Rows L2
def opGetI (ps : List (Str × Int)) (n : Int) : D → Option D
  | .str z => if PyData.strOk z = true then some (.int (((ps.find? fun p => decide (p.1 = z)).map (·.2)).getD n)) else none
  | _ => none
def kvsI (ps : List (Str × Int)) : List (L2.Key × V) := ps.map fun p => (.inr p.1, V.int p.2)
theorem valV_kvsI (ps : List (Str × Int)) (z : Str) : valV (kvsI ps) (.inr z) = (ps.find? fun p => decide (p.1 = z)).map fun p => V.int p.2 := by
  induction ps with
  | nil => rfl
  | cons p ps ih =>
    show ((((.inr p.1, V.int p.2) : L2.Key × V) :: kvsI ps).find? fun kv => decide (kv.1 = .inr z)).map (·.2) = _
    rw [List.find?_cons, List.find?_cons]
    by_cases e : p.1 = z
    · rw [decide_eq_true e, decide_eq_true (by rw [e])]; rfl
    · rw [decide_eq_false e, decide_eq_false (fun h => e (by injection h))]
      exact ih
theorem pairs_I : ∀ (ps : List (Str × Int)) (σ : L2.St) (H : Hp) (Q : List (V × V) → Hp → Prop), Q (ps.map fun p => (V.str p.1, V.int p.2)) H → tPairs (ps.map fun p => (tC (V.str p.1), tC (V.int p.2))) σ H Q
  | [], σ, H, Q, h => h
  | p :: ps, σ, H, Q, h => pairs_I ps σ H (fun qs H3 => Q ((V.str p.1, V.int p.2) :: qs) H3) h
theorem pps_consI {X : Cx} {pos p1 p2 : Pos} {i j : Nat} {z : Str} {n : Int} {ks : List (Option Expr)} {vs : List Expr} {ps : List (Str × Int)} (h : PPs X pos ks vs (ps.map fun p => (tC (V.str p.1), tC (V.int p.2)))) :
    PPs X pos (some (.Constant (.str z) i p1) :: ks) (.Constant (.int n) j p2 :: vs) (((z, n) :: ps).map fun p => (tC (V.str p.1), tC (V.int p.2))) := pps_cons pe_str pe_int h
theorem de_getI [TB] {X : Cx} {W : WX} {e : Expr} {fe : XE} {pos p2 apos cpos : Pos} {j : Nat} {n : Int} {keys : List (Option Expr)} {values : List Expr} {ps : List (Str × Int)} (hu : X.A.units + 100 < cLine) (h : PPs X pos keys values (ps.map fun p => (tC (V.str p.1), tC (V.int p.2)))) (he : DE X W e fe)
    (hall : keys.all (·.isSome) = true) (hl : keys.length = values.length) (h0 : keys ≠ []) (h15 : keys.length ≤ 15) (hp15 : ps.length ≤ 15) (hm : mergeK [] (kvsI ps) = kvsI ps)
    (m : M2 X (.Dict keys values pos) "get" apos e (.Constant (.int n) j p2) cpos) : DE X W (.Call (.Attribute (.Dict keys values pos) "get" apos) [e, .Constant (.int n) j p2] [] cpos) (x1 (opGetI ps n) fe) := by
  refine ⟨(pe_dget2 (Nat.lt_of_le_of_lt (Nat.add_le_add_left (by decide) _) hu) (pe_disp h hall hl h0 h15) he.pe pe_int m).weak fun σ H Q ⟨w, ε, S, r, o⟩ => ?_⟩
  intro p hp
  apply pairs_I
  refine ⟨upd_same, kvsI ps, by unfold kvsI; rw [List.map_map]; rfl, by unfold kvsI; rw [List.length_map]; exact hp15, p, rfl, .inl ⟨_, .inl upd_same⟩, ?_⟩
  rw [hm]
  have g : Grow H (upd (upd H p (.dK [])) p (.dK (kvsI ps))) := fun b u q => by
    have : b ≠ p := ne_of_none q hp
    rw [upd_ne this, upd_ne this]; exact q
  have nmu : ¬ w.mu p := fun z => r.muh z hp
  have r1 := r.grow g
  refine ⟨w, ε, S, r1, (OutM.bnd (o.grow g)).imp fun d1 io1 S1 H1 r2 x1 o1 v hv => ?_⟩
  obtain ⟨m1, e1, q⟩ := OutM.lft o1 r2
  have hp1 : H1 p = some (.dK (kvsI ps)) := x1.ext.keep p _ nmu upd_same nt_dK
  cases d1 with
  | str z =>
    unfold opGetI at e1
    dsimp only at e1
    split at e1
    · cases e1
      cases hv
      refine ⟨_, DGet.k (k := .inr z) hp1, ?_⟩
      rw [valV_kvsI]
      cases hf : ps.find? fun p => decide (p.1 = z) with
      | none => exact q H1 (Grow.refl H1) _ (by rw [hf]; exact .int _)
      | some y => exact q H1 (Grow.refl H1) _ (by rw [hf]; exact .int _)
    · cases e1
  | _ => cases e1
end Tn
end

section
set_option Elab.async false
set_option linter.all false
set_option maxRecDepth 100000
set_option maxHeartbeats 2000000
/-! texts: "".join([..]), z[::-1], z * n -/
namespace Tn
open PySem PySem.Spec PyProof.Rows L2
def strsD : List D → Option (List Str)
  | [] => some []
  | .str z :: r => (strsD r).map (z :: ·)
  | _ :: _ => none
def catS (ys : List Str) : Str := ⟨((ys.map fun y => y.cps.toList).flatten).toArray⟩
def opJoin : D → Option D
  | .list ds => match strsD ds with
    | some ys => if (ys.map (·.length)).sum ≤ 100000 then some (.str (catS ys)) else none
    | none => none
  | _ => none
def revS (z : Str) : Str := ⟨z.cps.toList.reverse.toArray⟩
def opRevS : D → Option D
  | .str z => if z.length ≤ big then some (.str (revS z)) else none
  | _ => none
def repS (z : Str) (n : Nat) : Str := ⟨((List.replicate n z.cps.toList).flatten).toArray⟩
def opRepS : D → D → Option D
  | .str z, .int n => if decide (2 ≤ n) && decide (n ≤ 1000) && decide (1 ≤ z.length) && decide (z.length ≤ 1000) then some (.str (repS z n.toNat)) else none
  | _, _ => none
theorem str_ext {x y : Str} (h : x.cps.toList = y.cps.toList) : x = y := Str.ext' (Array.toList_inj.mp h)
theorem catS_cons (y : Str) (ys : List Str) : catS (y :: ys) = y ++ catS ys := str_ext (by
  show _ = (y.cps ++ (catS ys).cps).toList
  rw [Array.toList_append]; simp [catS])
theorem join_cat {e : Str} (he : e.cps.size = 0) : ∀ ys : List Str, Txt.join e ys = catS ys := by
  have e0 : e.cps = #[] := Array.size_eq_zero_iff.mp he
  intro ys
  rw [TL.join_eq]
  induction ys with
  | nil => rfl
  | cons y ys ih =>
    cases ys with
    | nil => rw [catS_cons]; show y = y ++ catS []; exact (Str.append_empty y).symm
    | cons z zs =>
      rw [catS_cons, ← ih]
      show y ++ e ++ Str.join e (z :: zs) = y ++ Str.join e (z :: zs)
      have : y ++ e = y := Str.ext' (by rw [Str.cps_append, e0]; simp)
      rw [this]
theorem strOk_list {z : Str} : PyData.strOk z = true ↔ ∀ c ∈ z.cps.toList, c < 0x110000 := by
  unfold PyData.strOk
  rw [Array.all_eq_true']
  constructor
  · intro h c hc; exact of_decide_eq_true (h c (Array.mem_toList_iff.mp hc))
  · intro h c hc; exact decide_eq_true (h c (Array.mem_toList_iff.mpr hc))
theorem strOk_cat {ys : List Str} (h : ∀ y ∈ ys, PyData.strOk y = true) : PyData.strOk (catS ys) = true := by
  rw [strOk_list]
  intro c hc
  have hc : c ∈ (ys.map fun y => y.cps.toList).flatten := hc
  obtain ⟨l, hl, hm⟩ := List.mem_flatten.mp hc
  obtain ⟨y, hy, rfl⟩ := List.mem_map.mp hl
  exact strOk_list.mp (h y hy) c hm
theorem strOk_rev {z : Str} (h : PyData.strOk z = true) : PyData.strOk (revS z) = true := by
  rw [strOk_list] at h ⊢
  intro c hc
  have hc : c ∈ z.cps.toList.reverse := hc
  exact h c (List.mem_reverse.mp hc)
theorem strOk_rep {z : Str} {n : Nat} (h : PyData.strOk z = true) : PyData.strOk (repS z n) = true := by
  rw [strOk_list] at h ⊢
  intro c hc
  have hc : c ∈ (List.replicate n z.cps.toList).flatten := hc
  obtain ⟨l, hl, hm⟩ := List.mem_flatten.mp hc
  rw [List.eq_of_mem_replicate hl] at hm
  exact h c hm
theorem fold_app : ∀ (n : Nat) (a b : Array Nat), ((List.replicate n a).foldl (· ++ ·) b).toList = b.toList ++ (List.replicate n a.toList).flatten
  | 0, a, b => by simp
  | n + 1, a, b => by
    rw [List.replicate_succ, List.foldl_cons, fold_app n a (b ++ a), List.replicate_succ, List.flatten_cons, Array.toList_append, List.append_assoc]
theorem len_repS (l : List Nat) : ∀ n : Nat, ((List.replicate n l).flatten).length = n * l.length
  | 0 => by simp
  | n + 1 => by rw [List.replicate_succ, List.flatten_cons, List.length_append, len_repS l n, Nat.succ_mul, Nat.add_comm]
theorem repS_eq (z : Str) (n : Nat) : (⟨(List.replicate n z.cps).foldl (· ++ ·) #[]⟩ : Str) = repS z n := str_ext (by
  show ((List.replicate n z.cps).foldl (· ++ ·) #[]).toList = _
  rw [fold_app]; simp [repS])
theorem dvs_strs {K : PySem.W.Frag} {H : Hp} {mu : Addr → Prop} : ∀ {ds : List D} {xs : List V} {ns : List Str}, Dvs K H mu xs ds → strsD ds = some ns → xs = ns.map V.str ∧ ∀ y ∈ ns, PyData.strOk y = true
  | [], _, ns, .nil, e => by cases e; exact ⟨rfl, fun y hy => by cases hy⟩
  | d :: ds, _, ns, .cons h1 h2, e => by
    cases d with
    | str i =>
      have e : (strsD ds).map (i :: ·) = some ns := e
      cases e2 : strsD ds with
      | none => rw [e2] at e; cases e
      | some ks =>
        rw [e2] at e
        cases e
        have hs := h1
        cases hs with
        | str _ hx =>
          obtain ⟨q1, q2⟩ := dvs_strs h2 e2
          refine ⟨by rw [q1]; rfl, fun y hy => ?_⟩
          rcases List.mem_cons.mp hy with rfl | hy
          · exact hx
          · exact q2 y hy
    | _ => cases e
theorem sl_back (n : Nat) : Builtin.Str.strSliceIndices none none (-1) n = (List.range n).map fun k => n - 1 - k := by
  unfold Builtin.Str.strSliceIndices
  show sliceRange ((n : Int) - 1) (-1) (-1) = _
  unfold sliceRange
  have e : (if (-1 : Int) > 0 then (if (n : Int) - 1 < -1 then (-1 - ((n : Int) - 1) + -1 - 1) / -1 else 0) else if (n : Int) - 1 > -1 then ((n : Int) - 1 - -1 - -1 - 1) / (- -1) else 0).toNat = n := by
    rw [if_neg (by decide)]
    split <;> simp <;> omega
  show (List.range (if (-1 : Int) > 0 then (if (n : Int) - 1 < -1 then (-1 - ((n : Int) - 1) + -1 - 1) / -1 else 0) else if (n : Int) - 1 > -1 then ((n : Int) - 1 - -1 - -1 - 1) / (- -1) else 0).toNat).map _ = _
  rw [e]
  refine List.map_congr_left fun k hk => ?_
  have := List.mem_range.mp hk
  omega
theorem pick_backS (z : Str) : ((Builtin.Str.strSliceIndices none none (-1) z.length).filterMap (z.cps[·]?)).toArray = z.cps.toList.reverse.toArray := by
  rw [sl_back]
  show (((List.range z.cps.size).map fun k => z.cps.size - 1 - k).filterMap (z.cps[·]?)).toArray = _
  rw [PySem.W.krv_range, List.filterMap_reverse, PySem.W.krv_all]
section
variable [TB] {X : Cx} {W : WX} {e : Expr} {fe : XE}
theorem de_join {x : Str} {j : Nat} {p apos pos : Pos} (he : DE X W e fe) (hx : x.cps.size = 0 := by rfl) (hs : starEach [e] X.env = [(false, eval e X.env)] := by rfl)
    (hbase : attributeBase (.Constant (.str x) j p) "join" X.env (eval (.Constant (.str x) j p) X.env) = eval (.Constant (.str x) j p) X.env := by rfl) (hline : (apos.endLine == pos.line) = true := by rfl) :
    DE X W (.Call (.Attribute (.Constant (.str x) j p) "join" apos) [e] [] pos) (x1 opJoin fe) := by
  refine ⟨(pe_join pe_str he.pe hs hbase hline).weak fun σ H Q ⟨w, ε, S, rp, oo⟩ => ?_⟩
  refine ⟨⟨x, rfl⟩, w, ε, S, rp, (OutM.bnd oo).imp fun d1 io1 S1 H1 r1 x1 o1 v hv => ?_⟩
  obtain ⟨m, e1, q⟩ := OutM.lft o1 r1
  unfold opJoin at e1
  split at e1
  · rename_i ds
    split at e1
    · rename_i ys hys
      split at e1
      · rename_i hz
        cases e1
        obtain ⟨a, xs, rfl, hp, hk⟩ := Rv.lst (.inl hv)
        obtain ⟨q1, q2⟩ := dvs_strs hk hys
        subst q1
        refine ⟨x, a, ys, rfl, rfl, .inl hp, ?_, ?_⟩
        · show (ys.map (·.length)).sum + ys.length * x.cps.size ≤ _
          rw [hx]; omega
        · rw [join_cat hx]
          exact q _ (Grow.refl _) _ (.str _ (strOk_cat q2))
      · cases e1
    · cases e1
  · cases e1
theorem pe_backS {te : TE} {pos p2 p3 p4 : Pos} {j : Nat} (he : PE X e te) : PE X (.Subscript e (.Slice none none (some (.UnaryOp .USub (.Constant (.int 1) j p4) p3)) p2) pos) (fun σ H Q => te σ H fun x H1 => ∃ z, x = .str z ∧ z.length ≤ sizeLine ∧ Q (.str (revS z)) H1) := by
  refine ⟨fun pins s σ H Q I h => ?_⟩
  refine Subscript_ (thn (he.run pins s σ H _ I h) fun v s1 ⟨x, H1, I1, r1, q1⟩ => ?_)
  refine wpAny_Slice ?_
  rw [evalPart_none]
  refine wpAny_pure ?_
  refine wpAny_pure ?_
  have hp : PO X (some (.UnaryOp .USub (.Constant (.int 1) j p4) p3)) (tPart (tUn _ (tC (.int 1)))) := po_some (pe_un un_neg pe_int)
  refine thn (hp.run pins s1 σ H1 (fun o H2 => o = some (-1) ∧ H2 = H1) I1 ⟨1, rfl, -1, rfl, rfl, rfl⟩) fun vs s3 ⟨l, H3, I3, pu, ev, eH⟩ => ?_
  subst ev eH
  obtain ⟨z, rfl, hz, q⟩ := q1
  obtain ⟨t0, rfl⟩ := r1
  cases pu with
  | int i t =>
    have I4 : Inv X pins σ H3 { s3 with heap := s3.heap.push { cls := .type "slice", data := .fields #[.none, .none, .int (-1) t] } } := I3.kept (t' := s3.toks) fun b ob q => Heap.get?_push_of_some _ q
    show wpAny (model X.prog X.w) X.A (subscriptTail e _ (.str z t0) (.ref s3.heap.objs.size)) (EP X pins σ Q) X.xe { s3 with heap := s3.heap.push { cls := .type "slice", data := .fields #[.none, .none, .int (-1) t] } }
    refine tail_any (ops := [.str z t0, .ref s3.heap.objs.size]) (typeIs_str _ _ _) F.slot_str_getitem.lookup ?_ (by with_unfolding_all rfl)
    refine wpAny_getItem_str_slice (l := none) (u := none) (st := some (-1, t)) ⟨_, Heap.get?_push_size _ rfl, rfl, rfl⟩ rfl ?_
    show Made.post (if ((-1 : Int) == 1 && (Builtin.Str.strSliceIndices none none (-1) z.length).length == z.length) = true then Made.val (.str z t0)
      else Made.str ⟨((Builtin.Str.strSliceIndices none none (-1) z.length).filterMap (z.cps[·]?)).toArray⟩) _ _
    rw [if_neg (by simp), pick_backS]
    exact ⟨by show (z.cps.toList.reverse.toArray).size ≤ sizeLine; rw [List.size_toArray, List.length_reverse, Array.length_toList]; exact hz, .str (revS z), H3, I4.tok _, ⟨_, rfl⟩, q⟩
theorem de_revS {pos p2 p3 p4 : Pos} {j : Nat} (ha : DE X W e fe) : DE X W (.Subscript e (.Slice none none (some (.UnaryOp .USub (.Constant (.int 1) j p4) p3)) p2) pos) (x1 opRevS fe) := by
  refine ⟨(pe_backS ha.pe).weak fun σ H Q ⟨w, ε, S, r, o⟩ => ?_⟩
  refine ⟨w, ε, S, r, (OutM.bnd o).imp fun d io1 S1 H1 r1 x1 o1 x hx => ?_⟩
  obtain ⟨d2, e1, k⟩ := o1.lft r1
  unfold opRevS at e1
  split at e1
  · rename_i z
    split at e1
    · rename_i hz
      cases e1
      obtain ⟨rfl, hs⟩ := Rv.str (.inl hx)
      exact ⟨z, rfl, Nat.le_trans hz big_le, k _ (Grow.refl _) _ (.str _ (strOk_rev hs))⟩
    · cases e1
  · cases e1
theorem od_repS : OpR X (binaryOp .Mult) (rD2 X.K opRepS) := by
  intro pins s σ H x y v u Q I rx ry h
  obtain ⟨mu, d1, d2, d, m, h1, h2, e, q⟩ := h
  unfold opRepS at e
  split at e
  · rename_i z n
    split at e
    · rename_i hz
      cases e
      simp only [Bool.and_eq_true, decide_eq_true_eq] at hz
      obtain ⟨⟨⟨a1, a2⟩, a3⟩, a4⟩ := hz
      obtain ⟨rfl, hs⟩ := h1.str
      have := h2.int
      subst this
      obtain ⟨t, rfl⟩ := rx
      obtain ⟨t2, rfl⟩ := ry
      have hzn : z.length * n.toNat ≤ 1000000 := by
        have : n.toNat ≤ 1000 := by omega
        exact Nat.le_trans (Nat.mul_le_mul a4 this) (by decide)
      have hc : ¬ (n == 1 || z.length == 0) = true := by
        simp only [Bool.or_eq_true, beq_iff_eq, not_or]; omega
      refine PySem.P.mul_str ?_ ?_ ?_ ?_
      · rw [decide_eq_false (by omega), decide_eq_false (by omega)]; rfl
      · intro _ _ hgt
        have h1 : (1000 : Int) ≤ (2 ^ 63 - 1) / n := by
          refine (Int.le_ediv_iff_mul_le (by omega)).mpr ?_
          omega
        omega
      · intro _ _
        refine decide_eq_false ?_
        unfold sizeLine
        omega
      · rw [if_neg (by omega), if_neg hc, repS_eq]
        refine ⟨?_, .str (repS z n.toNat), H, I.tok _, ⟨_, rfl⟩, q _ H (Grow.refl H) (.str _ (strOk_rep hs))⟩
        show ((List.replicate n.toNat z.cps.toList).flatten.toArray).size ≤ sizeLine
        rw [List.size_toArray, len_repS, Array.length_toList]
        have : n.toNat * z.cps.size ≤ 1000000 := by rw [Nat.mul_comm]; exact hzn
        unfold sizeLine
        omega
    · cases e
  · cases e
end
end Tn
end

section
set_option Elab.async false
set_option linter.all false
set_option maxRecDepth 100000
set_option maxHeartbeats 4000000
/-! sorted(set(x)), x a list or a tuple of whole numbers -/
namespace Tn
open PySem PySem.Spec PyProof.Rows L2
open Builtin Builtin.Str
section
variable {P : Program} {w : World} {A : Around} {E : Value → Shared → Prop} {s : Shared}
/-- a new set, as set() of anything begins -/
abbrev nilS (w : World) : Obj := { cls := .type "set", dict := none, data := .set #[] 0 (.fresh 0 0 (!w.params.followText "set-order")) }
abbrev withS (w : World) (s : Shared) : Shared := { s with heap := s.heap.push (nilS w) }
/-- what is so behind set.__init__ -/
def EndS (w : World) (s : Shared) (ns : List Int) (r : Value) (s2 : Shared) : Prop :=
  r = .none ∧ ∃ h' tk c, s2 = { s with heap := h', toks := tk } ∧ SetR w h' s.heap.objs.size (fun j => decide (j ∈ ns)) c ∧ c ≤ ns.length ∧ ∀ b o, s.heap.get? b = some o → h'.get? b = some o
theorem listLoop {l : Addr} {items : Array Value} {ns : List Int} {R : Result → Shared → Prop} (hh : A.handled = none) (hl : s.heap.IsList l items) (hit : IntsAre items.toList ns) (hb : ns.length + 1 < scanBound)
    (h : ∀ h' tk c, SetR w h' s.heap.objs.size (fun j => decide (j ∈ ns)) c → c ≤ ns.length → (∀ b o, s.heap.get? b = some o → h'.get? b = some o) → R (.ok (.ret .none)) { s with heap := h', toks := tk }) :
    codeAny (model P w) A (.builtin "set.update.loop" ⟨[.ref s.heap.objs.size, .ref (withS w s).heap.objs.size], []⟩) R
      { s with heap := (s.heap.push (nilS w)).push { cls := .type "list_iterator", data := .fields #[.ref l, .int 0 0] } } := by
  have sz : items.size = ns.length := by
    have q := IntsAre.length hit
    rw [Array.length_toList] at q
    exact q
  have hz : (withS w s).heap.objs.size = s.heap.objs.size + 1 := Heap.size_push ..
  have hlt : l < s.heap.objs.size := by obtain ⟨o, ho, _⟩ := hl; exact Heap.lt_size ho
  have hne : l ≠ (withS w s).heap.objs.size := by rw [hz]; exact Nat.ne_of_lt (Nat.lt_succ_of_lt hlt)
  have hout : s.heap.objs.size ∉ [(withS w s).heap.objs.size, l] := by
    intro hm
    rcases List.mem_cons.mp hm with e | e
    · rw [hz] at e; exact absurd e (Nat.ne_of_lt (Nat.lt_succ_self _))
    · exact absurd (List.mem_singleton.mp e) (Nat.ne_of_gt hlt)
  have vals : ∀ (i : Nat) (v : Value), items[i]? = some v → ∃ k t, ns[i]? = some k ∧ v = .int k t := fun i v hv => by
    have hi : i < ns.length := by rw [← sz]; exact (Array.getElem?_eq_some_iff.mp hv).1
    obtain ⟨t, e⟩ := IntsAre.int_at hit i v (by rw [Array.getElem?_toList]; exact hv)
    exact ⟨ns[i], t, List.getElem?_eq_getElem hi, by rw [e, List.getD_eq_getElem?_getD, List.getElem?_eq_getElem hi]; rfl⟩
  have hd : A.in1.handled = none := by simp [hh]
  have first : ((s.heap.push (nilS w)).push { cls := .type "list_iterator", data := .fields #[.ref l, .int 0 0] }).get? s.heap.objs.size = some (nilS w) := Heap.get?_push_of_some _ (Heap.get?_push_size _ rfl)
  refine set_update_ints ((Walks.list hd _ l hne items).toS) s.heap.objs.size hout ns sz hb vals (items.size - 0) 0 _ (by omega) (Nat.zero_le _)
    ⟨⟨_, Heap.get?_push_size _ rfl, rfl, rfl⟩, (hl.push _).push _⟩ ⟨0, Nat.le_refl 0, setR_new_at first⟩ fun s' c' hm hc' hS' => ?_
  obtain ⟨h', g2, d', tk', os'⟩ := s'
  have eg : g2 = s.gens := hm.gens
  have ed : d' = s.drawn := hm.drawn
  have eo : os' = s.os := hm.os
  subst eg; subst ed; subst eo
  rw [sz] at hc'
  refine h h' tk' c' hS' hc' fun b o e => ?_
  have b0 : b < s.heap.objs.size := Heap.lt_size e
  refine hm.heap b o ?_ (Heap.get?_push_of_some _ (Heap.get?_push_of_some _ e))
  intro hmem
  rcases List.mem_cons.mp hmem with z | z
  · exact absurd z (Nat.ne_of_lt b0)
  · have z := List.mem_singleton.mp z
    rw [hz] at z
    exact absurd z (Nat.ne_of_lt (Nat.lt_succ_of_lt b0))
theorem call_setL {l : Addr} {items : Array Value} (ns : List Int) {Q : Value → Shared → Prop} (hh : A.handled = none) (hl : s.heap.IsList l items) (hit : IntsAre items.toList ns) (hb : ns.length + 1 < scanBound)
    (h : ∀ (h' : Heap) (tk c : Nat), SetR w h' s.heap.objs.size (fun j => decide (j ∈ ns)) c → c ≤ ns.length → (∀ b o, s.heap.get? b = some o → h'.get? b = some o) → Q (.ref s.heap.objs.size) { s with heap := h', toks := tk }) :
    wpAny (model P w) A (call (.type "set") [.ref l]) Q E s := by
  obtain ⟨c, tl, mro⟩ := F.called_set.mro
  have made := F.called_set.made
  have sub := F.called_set.sub
  have nt := F.called_set.notType
  have cc := F.called_set.canCreate
  have tc := F.typeCall_set_1 (.ref l)
  refine wpAny_call (codeAny_of_tree ?_)
  show wpAny _ _ (callAny (.type "set") _) _ _ _
  refine wpAny_pure ⟨Code.quiet_builtin _ (by decide +kernel), codeAny_builtin F.entry_type_call ?_⟩
  rw [Around.under_plain (weight_type_call_type "set" [.ref l] []) rfl]
  repeat (any_goals (first | assumption | wp_step))
  refine codeAny_mono (code_set_led1 (.ref l) (E := E) (Q₁ := fun obj s₁ => obj = .ref s.heap.objs.size ∧ s₁ = withS w s) ⟨rfl, rfl⟩) fun r s₁ hr => ?_
  rcases r with e | fl
  · exact hr
  cases fl with
  | ret obj =>
    obtain ⟨rfl, rfl⟩ := hr
    have hS : (s.heap.push (nilS w)).get? s.heap.objs.size = some (nilS w) := Heap.get?_push_size _ rfl
    have hT : Shared.TypeIs (withS w s) (.ref s.heap.objs.size) "set" := ⟨_, hS, rfl⟩
    have lk := F.called_set.init.lookup
    have bi := F.called_set.init.bind (.ref s.heap.objs.size)
    repeat (any_goals (first | assumption | wp_step))
    refine codeAny_mono (codeAny_call_builtin (R := wants (EndS w s ns) E) F.called_set.init.plain F.entry_set_init (check_set_init_1 hT ?_)) fun r₂ s₂ hr₂ => ?_
    · have hl0 := hl
      obtain ⟨⟨ocls, odict, odata, oslots⟩, hol, hcl, nl, hdl⟩ := hl
      simp only at hcl hdl
      subst hcl; subst hdl
      have hol1 : (s.heap.push (nilS w)).get? l = some { cls := .type "list", dict := odict, data := .seq items nl, slots := oslots } := Heap.get?_push_of_some _ hol
      have n1 := F.sub_list_set
      have n2 := F.sub_list_frozenset
      have n3 : (Value.type "list" == Value.type "dict") = false := by decide
      have l1 : (s.heap.push (nilS w)).IsList l items := ⟨_, hol1, rfl, nl, rfl⟩
      unfold Builtin.«set.__init__» noKeywords Builtin.Frozenset.updateFrom
      generalize hPI : pyIter = PI
      wp_walk
      subst hPI
      refine wpAny_pyIter_list l1 ?_
      refine wpAny_bind (wpAny_runValue ?_)
      refine listLoop (A := A.in1.in1) (by simp [hh]) hl0 hit hb fun h' tk c r1 r2 r3 => ?_
      show wpAny _ _ _ _ _ _
      refine wpAny_pure ?_
      show wpAny _ _ (PySem.ret Value.none) _ _ _
      exact wpAny_pure ⟨rfl, h', tk, c, rfl, r1, r2, r3⟩
    · rcases r₂ with e | fl₂
      · exact hr₂
      cases fl₂ with
      | ret r =>
        obtain ⟨rfl, h', tk, c, rfl, r1, r2, r3⟩ := hr₂
        repeat (any_goals (first | assumption | wp_step))
        exact h _ _ _ r1 r2 r3
      | _ => exact hr₂.elim
  | _ => exact hr.elim
end
def rSetL (K : PySem.W.Frag) (w : World) : List V → Hp → VK → Prop := fun xs H Q => ∃ (l : Addr) (ns : List Int), xs = [V.ref l] ∧ SqL K H l (ns.map V.int) ∧ ns.length < 64 ∧ ∀ p n, H p = none → n ≤ ns.length → Q (.ref p) (upd H p (SetO w p (fun j => decide (j ∈ ns)) n))
def gSortSetL : D → Option (List D)
  | .list ds => match intsD ds with
    | some ns => if ns.length < 64 then some (((ns.foldl step_dedup []).mergeSort fun a b => decide (a ≤ b)).map .int) else none
    | none => none
  | _ => none
section
variable [TB] {X : Cx} {W : WX} {a e : Expr} {fa : XE} {pos : Pos}
theorem cr_setL (hc : X.calm = true) : CallR X (.type "set") (rSetL X.K X.w) := by
  intro pins s σ H xs us Q I r h
  obtain ⟨l, ns, rfl, hl, h64, q⟩ := h
  rw [Vals.ref1 r]
  obtain ⟨its, rv, pl, hz⟩ := I.list hl
  have hn : H s.heap.objs.size = none := I.hok.fresh (Nat.le_refl _)
  refine call_setL ns (I.ok.hd hc) pl.isList (by simpa using RZ.intsAre_vals rv) (by unfold scanBound; omega) fun h' tk c hS hle hk => ?_
  exact ⟨.ref s.heap.objs.size, upd H s.heap.objs.size (SetO X.w s.heap.objs.size (fun j => decide (j ∈ ns)) c), I.laid (t' := tk) hk (Nat.le_refl _) (setO_new hS), rfl, q _ c hn hle⟩
theorem dl_sortSetL {p p2 q : Pos} (hc : X.calm = true) (hg : Gl X "sorted") (hm : X.mg "sorted" = none) (hg2 : Gl X "set") (hm2 : X.mg "set" = none) (ha : DE X W a fa)
    (he : starEach [a] X.env = (false, eval a X.env) :: starEach [] X.env := by rfl) (he2 : starEach [.Call (.Name "set" p2) [a] [] q] X.env = (false, eval (.Call (.Name "set" p2) [a] [] q) X.env) :: starEach [] X.env := by rfl) :
    DL X W (.Call (.Name "sorted" p) [.Call (.Name "set" p2) [a] [] q] [] pos) (l1 gSortSetL fa) := by
  have hset := pe_callTy (p := p2) (pos := q) (cr_setL hc) hg2 hm2 (by decide +kernel) (pa_cons ha.pe pa_nil he) (by decide) (by decide) he (by rfl)
  refine ⟨(pe_callB (cr_sortedSet hc) hg hm (by decide +kernel) (pa_cons hset pa_nil he2) (by decide) (by decide) he2 (by rfl)).weak fun σ H Q ⟨w, ε, S, r, o⟩ => ?_⟩
  refine ⟨w, ε, S, r, (OutM.bnd o).imp fun d io1 S1 H1 r1 x1 o1 v dv => ?_⟩
  obtain ⟨m, e1, k⟩ := OutM.lft o1 r1
  unfold gSortSetL at e1
  split at e1
  · rename_i ds
    split at e1
    · rename_i ns hns
      split at e1
      · rename_i hl
        cases e1
        obtain ⟨pp, xs, rfl, t, kx⟩ := Rv.lst (.inl dv)
        have := dvs_ints kx hns
        subst this
        refine ⟨pp, ns, rfl, t, hl, fun p1 n hp1 hn => ⟨p1, _, n, rfl, upd_same, by omega, fun zs p2 hs hm hlen hp2 => ?_⟩⟩
        have g := Grow.upd (o := SetO X.w p1 (fun j => decide (j ∈ ns)) n) hp1
        obtain ⟨d1, d2⟩ := dd_nd ns [] List.nodup_nil
        have nz : zs.Nodup := hs.imp fun {a b} h e => by subst e; exact Int.lt_irrefl _ h
        have e : zs = (ns.foldl step_dedup []).mergeSort fun a b => decide (a ≤ b) := sorted_uniq ((List.perm_ext_iff_of_nodup nz d1).mpr fun k => by rw [hm k, d2 k]; simp) (hs.imp fun h => Int.le_of_lt h)
        rw [e]
        refine k _ g p2 _ hp2 ?_
        generalize (ns.foldl step_dedup []).mergeSort (fun a b => decide (a ≤ b)) = ws
        induction ws with
        | nil => exact .nil
        | cons z zs ih => exact .cons (.int z) ih
      · cases e1
    · cases e1
  · cases e1
end
end Tn
end

section
set_option Elab.async false
set_option linter.all false
set_option maxRecDepth 100000
set_option maxHeartbeats 1000000
/-! dicts with tuple keys; dicts that nobody changes any more, and walks over them -/
namespace Tn
open PySem PySem.Spec PyProof.Rows L2
/-! ### keys that are tuples -/
def leq : List D → List D → Bool
  | [], [] => true
  | a :: as, b :: bs => keq a b && leq as bs
  | _, _ => false
def teq : D → D → Bool
  | .tuple a, .tuple b => leq a b
  | _, _ => false
def keysD : List D → Option (List L2.Key)
  | [] => some []
  | d :: ds => match keyD d, keysD ds with
    | some k, some ks => some (k :: ks)
    | _, _ => none
def putT (ds : List (D × D)) (k d : D) : List (D × D) := if (ds.any fun e => teq e.1 k) = true then ds.map (fun e => if teq e.1 k = true then (e.1, d) else e) else ds ++ [(k, d)]
theorem leq_kD : ∀ a b : List L2.Key, leq (a.map kD) (b.map kD) = decide (a = b)
  | [], [] => by simp [leq]
  | [], _ :: _ => by simp [leq]
  | _ :: _, [] => by simp [leq]
  | x :: a, y :: b => by
    rw [List.map_cons, List.map_cons, leq, keq_kD, leq_kD a b]
    by_cases h1 : x = y <;> by_cases h2 : a = b <;> simp [h1, h2]
theorem teq_kD (a b : List L2.Key) : teq (.tuple (a.map kD)) (.tuple (b.map kD)) = decide (a = b) := leq_kD a b
theorem keysD_ok : ∀ {ds : List D} {ks : List L2.Key}, keysD ds = some ks → ds = ks.map kD ∧ ks.all keyOk = true
  | [], ks, h => by cases h; exact ⟨rfl, rfl⟩
  | d :: ds, ks, h => by
    unfold keysD at h
    cases e1 : keyD d with
    | none => rw [e1] at h; cases h
    | some k =>
      cases e2 : keysD ds with
      | none => rw [e1, e2] at h; cases h
      | some ks2 =>
        rw [e1, e2] at h
        cases h
        obtain ⟨a, b⟩ := keyD_ok e1
        obtain ⟨c, d⟩ := keysD_ok e2
        exact ⟨by rw [List.map_cons, ← a, ← c], by rw [List.all_cons, b, d]; rfl⟩
section
variable {K : PySem.W.Frag} {H : Hp} {mu : Addr → Prop}
theorem dvs_keys : ∀ {ks : List L2.Key} {us : List V}, Dvs K H mu us (ks.map kD) → us = ks.map kV
  | [], _, h => by cases h; rfl
  | k :: ks, _, h => by
    cases h with
    | cons h1 h2 => rw [dv_key h1, dvs_keys h2]; rfl
theorem kvt_any {k : List L2.Key} : ∀ {kvs : List (List L2.Key × V)} {ds : List (D × D)}, Kvt K H mu kvs ds → (ds.any fun e => teq e.1 (.tuple (k.map kD))) = kvs.any fun kv => decide (kv.1 = k)
  | _, _, .nil => rfl
  | _, _, .cons h1 h2 h3 => by rw [List.any_cons, List.any_cons, kvt_any h3, teq_kD]
theorem kvt_app {k : List L2.Key} {v : V} {d : D} (h1 : k.all keyOk = true) (h2 : Dv K H mu v d) : ∀ {kvs : List (List L2.Key × V)} {ds : List (D × D)}, Kvt K H mu kvs ds → Kvt K H mu (kvs ++ [(k, v)]) (ds ++ [(.tuple (k.map kD), d)])
  | _, _, .nil => .cons h1 h2 .nil
  | _, _, .cons a b c => .cons a b (kvt_app h1 h2 c)
theorem kvt_map {k : List L2.Key} {v : V} {d : D} (h2 : Dv K H mu v d) : ∀ {kvs : List (List L2.Key × V)} {ds : List (D × D)}, Kvt K H mu kvs ds → Kvt K H mu (kvs.map fun kv => if kv.1 = k then (kv.1, v) else kv) (ds.map fun e => if teq e.1 (.tuple (k.map kD)) = true then (e.1, d) else e)
  | _, _, .nil => .nil
  | _, _, .cons (k := k2) a b c => by
    rw [List.map_cons, List.map_cons]
    by_cases e : k2 = k
    · subst e
      rw [if_pos rfl, if_pos (by rw [teq_kD]; exact decide_eq_true rfl)]
      exact .cons a h2 (kvt_map h2 c)
    · rw [if_neg e, if_neg (by rw [teq_kD, decide_eq_false e]; exact Bool.false_ne_true)]
      exact .cons a b (kvt_map h2 c)
theorem kvt_put {k : List L2.Key} {v : V} {d : D} {kvs : List (List L2.Key × V)} {ds : List (D × D)} (h : Kvt K H mu kvs ds) (h1 : k.all keyOk = true) (h2 : Dv K H mu v d) : Kvt K H mu (putK kvs k v) (putT ds (.tuple (k.map kD)) d) := by
  unfold putK putT
  rw [kvt_any h]
  split
  · exact kvt_map h2 h
  · exact kvt_app h1 h2 h
theorem kvt_len : ∀ {kvs : List (List L2.Key × V)} {ds : List (D × D)}, Kvt K H mu kvs ds → kvs.length = ds.length
  | _, _, .nil => rfl
  | _, _, .cons _ _ h => by rw [List.length_cons, List.length_cons, kvt_len h]
theorem kvt_get : ∀ {kvs : List (List L2.Key × V)} {ds : List (D × D)} {i : Nat} {e : D × D}, Kvt K H mu kvs ds → ds[i]? = some e → ∃ k v, kvs[i]? = some (k, v) ∧ e.1 = .tuple (k.map kD) ∧ k.all keyOk = true ∧ Dv K H mu v e.2
  | _, _, i, e, .nil, h => by simp at h
  | _, _, 0, e, .cons a b c, h => by simp at h; subst h; exact ⟨_, _, rfl, rfl, a, b⟩
  | _, _, i + 1, e, .cons a b c, h => by
    obtain ⟨k, v, h1, h2⟩ := kvt_get (i := i) c (by simpa using h)
    exact ⟨k, v, by simpa using h1, h2⟩
theorem kvs_at : ∀ {kvs : List (L2.Key × V)} {ds : List (D × D)} {i : Nat} {e : D × D}, Kvs K H mu kvs ds → ds[i]? = some e → ∃ k v, kvs[i]? = some (k, v) ∧ e.1 = kD k ∧ keyOk k = true ∧ Dv K H mu v e.2
  | _, _, i, e, .nil, h => by simp at h
  | _, _, 0, e, .cons a b c, h => by simp at h; subst h; exact ⟨_, _, rfl, rfl, a, b⟩
  | _, _, i + 1, e, .cons a b c, h => by
    obtain ⟨k, v, h1, h2⟩ := kvs_at (i := i) c (by simpa using h)
    exact ⟨k, v, by simpa using h1, h2⟩
theorem dv_kD {k : L2.Key} (h : keyOk k = true) : Dv K H mu (kV k) (kD k) := by
  cases k with
  | inl i => exact .int i
  | inr s => exact .str s h
theorem dvs_kD : ∀ {ks : List L2.Key}, ks.all keyOk = true → Dvs K H mu (ks.map kV) (ks.map kD)
  | [], _ => .nil
  | k :: ks, h => by
    rw [List.all_cons, Bool.and_eq_true] at h
    exact .cons (dv_kD h.1) (dvs_kD h.2)
end
section
variable [TB]
/-! ### a dict of one's own, whatever its keys are -/
section
variable {K : PySem.W.Frag} {w : Wd} {ε : Ev} {S : List D} {σ : L2.St} {H : Hp}
theorem Rp.ownG {p : Addr} {u : HO} {d : D} (r : Rp K w ε S σ H) (hp : H p = none) (i : Nat) (hi : i < ε.length) (hb : (∀ a, Kn H a → (w.own i p).mu a → w.mu a) → Obk K (upd H p u) (w.own i p).mu p d) :
    Rp K (w.own i p) (ε.set i (.lk d)) S (σ.set i (some (.ref p))) (upd H p u) ∧ Ext w H (w.own i p) (upd H p u) := by
  have g := Grow.upd (o := u) hp
  have mu : ∀ a, Kn H a → (w.own i p).mu a → w.mu a := fun a ha z => by
    rcases z with (z | ⟨j, z⟩) | z
    · exact .inl (.inl z)
    · have z : (if j = i then some p else w.om j) = some a := z
      split at z
      · cases z; exact absurd ha (Kn.non hp)
      · exact .inl (.inr ⟨j, z⟩)
    · exact .inr z
  have npi : p ∉ w.io := fun z => r.new hp (.inl (.inl z))
  refine ⟨⟨r.ls, r.nd, fun j k a h1 h2 => ?_, fun j a h1 => ?_, fun a z t => ?_, fun a z => (r.zh a z).grow g, r.tt.ext g, fun n a d h1 h2 => (r.st n a d h1 h2).mono (fun a o _ q _ => g a o q) mu (g.eq (r.st n a d h1 h2).kn.ne), fun j s h1 => ?_, fun j h1 => ?_, by rw [List.length_set, List.length_set]; exact r.le⟩,
    ⟨List.prefix_rfl, fun _ h => .inl h, fun a o _ q _ => g a o q, fun a t => ?_, fun a q => ?_⟩⟩
  · have h1 : (if j = i then some p else w.om j) = some a := h1
    have h2 : (if k = i then some p else w.om k) = some a := h2
    split at h1
    · split at h2
      · omega
      · cases h1; exact absurd hp (r.tch (.inr ⟨k, h2⟩)).ne
    · split at h2
      · cases h2; exact absurd hp (r.tch (.inr ⟨j, h1⟩)).ne
      · exact r.oi j k a h1 h2
  · have h1 : (if j = i then some p else w.om j) = some a := h1
    split at h1
    · cases h1; exact npi
    · exact r.od j a h1
  · rcases t with t | ⟨j, t⟩
    · exact r.zd a z (.inl t)
    · have t : (if j = i then some p else w.om j) = some a := t
      split at t
      · cases t; exact (r.zh p z).ne hp
      · exact r.zd a z (.inr ⟨j, t⟩)
  · by_cases e : i = j
    · subst e
      rw [List.getElem?_set_self hi] at h1
      cases h1
      refine ⟨_, by rw [List.getElem?_set_self (by rw [← r.le]; exact hi)], p, by show (if i = i then some p else w.om i) = some p; simp, rfl, hb mu⟩
    · rw [List.getElem?_set_ne e] at h1
      obtain ⟨o', h2, h3⟩ := r.sl j s h1
      refine ⟨o', by rw [List.getElem?_set_ne e]; exact h2, ?_⟩
      have e2 : (w.own i p).om j = w.om j := by
        show (if j = i then some p else w.om j) = w.om j
        rw [if_neg (fun z => e z.symm)]
      rw [e2]
      exact h3.mono (fun a o _ q _ => g a o q) mu fun a e => g.eq (r.tch (.inr ⟨j, e⟩)).ne
  · rw [List.length_set] at h1
    show (if j = i then some p else w.om j) = none
    rw [if_neg (by omega)]; exact r.so j h1
  · rcases t with t | ⟨j, t⟩
    · exact .inl (.inl t)
    · have t : (if j = i then some p else w.om j) = some a := t
      split at t
      · cases t; exact .inr (Kn.non hp)
      · exact .inl (.inr ⟨j, t⟩)
  · exact g.kn q
theorem Rp.putG {i : Nat} {a : Addr} {d0 d1 : D} {u : HO} (r : Rp K w ε S σ H) (e : ε[i]? = some (.lk d0)) (ha : w.om i = some a) (k : Obk K (upd H a u) w.mu a d1) : Rp K w (ε.set i (.lk d1)) S σ (upd H a u) where
  ls := r.ls
  nd := r.nd
  oi := r.oi
  od := r.od
  zd := r.zd
  zh := fun b z => by
    have hb : b ≠ a := fun e => by subst e; exact r.zd b z (.inr ⟨i, ha⟩)
    obtain ⟨u, q1, q2⟩ := r.zh b z
    exact ⟨u, by rw [upd_ne hb]; exact q1, q2⟩
  tt := by obtain ⟨o, hx, mo⟩ := r.tcl (.inr ⟨i, ha⟩); exact tabs_mo r.tt hx mo
  st := fun n b d h1 h2 => by
    have hb : b ≠ a := fun e => by subst e; exact r.od i b ha (List.mem_of_getElem? h1)
    exact (r.st n b d h1 h2).mono (fun c o n q _ => tc_upd (.inr ⟨i, ha⟩) n q) (fun _ _ z => z) (upd_ne hb)
  sl := fun j s h1 => by
    have hi : i < ε.length := (List.getElem?_eq_some_iff.mp e).1
    by_cases ej : i = j
    · subst ej
      rw [List.getElem?_set_self hi] at h1
      cases h1
      obtain ⟨o, h2, h3⟩ := r.sl i _ e
      obtain ⟨b, e1, e2, _⟩ := h3
      rw [ha] at e1; cases e1
      exact ⟨o, h2, a, ha, e2, k⟩
    · rw [List.getElem?_set_ne ej] at h1
      obtain ⟨o, h2, h3⟩ := r.sl j s h1
      exact ⟨o, h2, h3.mono (fun c o n q _ => tc_upd (.inr ⟨i, ha⟩) n q) (fun _ _ z => z) fun b e2 => upd_ne fun e3 => by subst e3; exact ej (r.oi i j _ ha e2)⟩
  so := fun j h => r.so j (by rwa [List.length_set] at h)
  le := by rw [List.length_set]; exact r.le
/-- it is read only from here on -/
theorem Rp.lockG {i : Nat} {a : Addr} {d : D} {u : HO} (r : Rp K w ε S σ H) (e : ε[i]? = some (.lk d)) (ha : w.om i = some a) (lk : Lkd K (upd H a u) (w.clr [i]).mu (some (.ref a)) d) (nu : Nt u) :
    Rp K (w.clr [i]) (ε.set i (.sc d)) S σ (upd H a u) ∧ Ext w H (w.clr [i]) (upd H a u) := by
  have kp : ∀ c o, ¬ w.mu c → H c = some o → Nt o → upd H a u c = some o := fun c o n q _ => tc_upd (.inr ⟨i, ha⟩) n q
  have mm : ∀ c, Kn H c → (w.clr [i]).mu c → w.mu c := fun c _ z => Wd.clr_mu z
  have hi : i < ε.length := (List.getElem?_eq_some_iff.mp e).1
  refine ⟨⟨r.ls, r.nd, fun j k b h1 h2 => ?_, fun j b h1 => ?_, fun b h t => r.zd b h (Wd.clr_tc t), fun b z => ?_, ?_, fun n b d h1 h2 => ?_, fun j s h1 => ?_, fun j h1 => ?_, by rw [List.length_set]; exact r.le⟩, ⟨List.prefix_rfl, fun _ h => .inl h, fun b o n q k => ?_, fun b t => .inl (Wd.clr_tc t), fun b q => ?_⟩⟩
  · have h1 : (if j ∈ [i] then none else w.om j) = some b := h1
    have h2 : (if k ∈ [i] then none else w.om k) = some b := h2
    split at h1
    · cases h1
    · split at h2
      · cases h2
      · exact r.oi j k b h1 h2
  · have h1 : (if j ∈ [i] then none else w.om j) = some b := h1
    split at h1
    · cases h1
    · exact r.od j b h1
  · have hb : b ≠ a := fun e => by subst e; exact r.zd b z (.inr ⟨i, ha⟩)
    obtain ⟨u, q1, q2⟩ := r.zh b z
    exact ⟨u, by rw [upd_ne hb]; exact q1, q2⟩
  · obtain ⟨o, hx, mo⟩ := r.tcl (.inr ⟨i, ha⟩); exact tabs_mo r.tt hx mo
  · have hb : b ≠ a := fun e => by subst e; exact r.od i b ha (List.mem_of_getElem? h1)
    exact (r.st n b d h1 h2).mono kp mm (upd_ne hb)
  · by_cases ej : i = j
    · subst ej
      rw [List.getElem?_set_self hi] at h1
      cases h1
      obtain ⟨o, h2, h3⟩ := r.sl i _ e
      obtain ⟨b, e1, e2, _⟩ := h3
      rw [ha] at e1; cases e1
      refine ⟨o, h2, by show (if i ∈ [i] then none else w.om i) = none; simp, .inr ?_⟩
      rw [e2]; exact lk
    · rw [List.getElem?_set_ne ej] at h1
      obtain ⟨o, h2, h3⟩ := r.sl j s h1
      have e2 : (w.clr [i]).om j = w.om j := by
        show (if j ∈ [i] then none else w.om j) = w.om j
        rw [if_neg (by simpa using fun z => ej z.symm)]
      refine ⟨o, h2, ?_⟩
      rw [e2]
      exact h3.mono kp mm fun b e2 => upd_ne fun e3 => by subst e3; exact ej (r.oi i j _ ha e2)
  · rw [List.length_set] at h1
    show (if j ∈ [i] then none else w.om j) = none
    rw [r.so j h1]; simp
  · exact by rw [upd_ne (fun e => n (by subst e; exact .inr ⟨i, ha⟩))]; exact q
  · by_cases hb : b = a
    · subst hb; exact ⟨u, upd_same, nu⟩
    · obtain ⟨o, q1, q2⟩ := q
      exact ⟨o, by rw [upd_ne hb]; exact q1, q2⟩
end
/-! ### statements -/
/-- what stands in a slot of tuple keys -/
def kSlT (i : Nat) : XK' := fun ε => match ε[i]? with
  | some (.lk (.tuple [.dict ds])) => ret ds
  | _ => stk
/-- x = {}, keys to be tuples -/
def sDctT (i : Nat) : XS := fun ε => if i < ε.length then ret (.nx (ε.set i (.lk (.tuple [.dict []])))) else stk
/-- the new tuple that a def hands back -/
def tCall (F : Fn) (as : XAs) : XL := fun ε => bnd (as ε) fun vs => bnd (F vs) fun r => match r with
  | .lk (.tuple ks) => ret ks
  | _ => stk
/-- x[f(..)] = e, f hands back a new tuple -/
def sPutT (i : Nat) (F : Fn) (as : XAs) (fe : XE) : XS := fun ε => bnd (fe ε) fun d => bnd (kSlT i ε) fun ds => bnd (tCall F as ε) fun ks =>
  if (keysD ks).isSome = true ∧ ds.length < big then ret (.nx (ε.set i (.lk (.tuple [.dict (putT ds (.tuple ks) d)])))) else stk
/-- from here on nobody changes x -/
def sLockK (i : Nat) (f : XS) : XS := fun ε => match ε[i]? with
  | some (.lk d) => f (ε.set i (.sc d))
  | _ => stk
/-- y = x, x a dict of one's own, both read only from here on -/
def sLkMv (i j : Nat) : XS := fun ε => match ε[i]? with
  | some (.lk d) => if j < ε.length then ret (.nx ((ε.set i (.sc d)).set j (.sc d))) else stk
  | _ => stk
def iKeyS (i : Nat) : XL := fun ε => match ε[i]? with
  | some (.sc (.dict ds)) => ret (ds.map (·.1))
  | some (.sc (.tuple [.dict ds])) => ret (ds.map (·.1))
  | _ => stk
def iItmS (i : Nat) : XL := fun ε => match ε[i]? with
  | some (.sc (.dict ds)) => ret (ds.map fun e => .tuple [e.1, e.2])
  | _ => stk
def xGetS (i : Nat) (a : XE) : XE := fun ε => match ε[i]? with
  | some (.sc (.dict ds)) => bnd (a ε) fun k => lft (if (keyD k).isSome = true then getK ds k else none)
  | _ => stk
section
variable {X : Cx} {W : WX} {i j : Nat} {x y : Str} {e : Expr} {es : List Expr} {fe : XE} {fs : XAs} {F : Fn} {ps : List Str} {k : Nat} {pos p1 p2 p3 pos' : Pos}
theorem ds_dctT (hN : X.N.Nodup) (hi : X.N[i]? = some x) (hx : Loc X.env.scope x) (hs : swapsWith (.Dict [] [] p1) (some (.Name x pos')) pos.line X.env = pure false := by rfl) (hf : X.fn x = true ∨ X.env.scope.names.lookup x = some .local := by first | exact .inl rfl | exact .inr rfl | assumption) : DS X W (.Assign [.Name x pos'] (.Dict [] [] p1) pos) (sDctT i) := by
  refine ⟨(ps_set hN hi hx pe_dnewT hs hf).weak fun D0 σ H ⟨w, ε, S, r, o⟩ => ?_⟩
  unfold sDctT at o
  by_cases hi : i < ε.length
  · rw [if_pos hi] at o
    intro p hp
    obtain ⟨r2, x2⟩ := r.ownG (u := .dT []) (d := .tuple [.dict []]) hp i hi fun _ => .inr ⟨[], [], rfl, upd_same, .nil⟩
    exact OutS.nx o r2 x2 rfl
  · rw [if_neg hi] at o; exact o.elim
theorem kSlT_atS {K : PySem.W.Frag} {w : Wd} {ε : Ev} {S : List D} {σ : L2.St} {H : Hp} {i : Nat} {mg : Str → Option Value} {W : WX} {f : List (D × D) → M SR} {D0 : Ends} (r : Rp K w ε S σ H) (o : OutS K mg W w H (bnd (kSlT i ε) f S) D0) :
    ∃ ds a kvs, ε[i]? = some (.lk (.tuple [.dict ds])) ∧ w.om i = some a ∧ σ[i]? = some (some (.ref a)) ∧ H a = some (.dT kvs) ∧ Kvt K H w.mu kvs ds ∧ OutS K mg W w H (f ds S) D0 := by
  unfold kSlT at o
  cases e : ε[i]? with
  | none => rw [e] at o; exact o.elim
  | some s =>
    rw [e] at o
    cases s with
    | lk d =>
      obtain ⟨q, h1, a, h2, rfl, ⟨kvs, ds, rfl, h3, h4⟩ | ⟨kvs, ds, rfl, h3, h4⟩⟩ := r.sl i _ e
      · exact o.elim
      · exact ⟨ds, a, kvs, rfl, h2, h1, h3, h4, o⟩
    | _ => exact o.elim
theorem nt_dT {kvs : List (List L2.Key × V)} : Nt (.dT kvs) := fun _ h => by cases h
theorem tc_bad {s : Sl} {S' : List D} (h : okK s = false) : (match s with | .lk (.tuple ks) => ret ks | _ => (stk : M (List D))) S' = none := by
  cases s with
  | lk d =>
    cases d with
    | tuple ds => cases h
    | _ => rfl
  | _ => rfl
theorem ds_putT {e1 : Expr} (hu : X.A.units + 100 < cLine) (ho : PE X (.Name x p1) (tVar i)) (he : DE X W e fe) (tk : Takes X W) (hr : Room k X.A) (hF : FnD X.prog X.w X.K X.mg X.base k y ps F) (hg : Gl X y) (ha : DAs X W (e1 :: es) fs) (hdb : (y == ("__debug__" : Str)) = false := by decide)
    (hst : starEach (e1 :: es) X.env = (false, eval e1 X.env) :: starEach es X.env := by rfl) (hpl : (backTo p3 (starEach es X.env)).any (·.1) = false := by rfl) (hs : swapsWith e (some (.Subscript (.Name x p1) (.Call (.Name y p2) (e1 :: es) [] p3) pos')) pos.line X.env = pure false := by rfl) :
    DS X W (.Assign [.Subscript (.Name x p1) (.Call (.Name y p2) (e1 :: es) [] p3) pos'] e pos) (sPutT i F fs fe) := by
  refine ⟨(ps_dput (Nat.lt_of_le_of_lt (Nat.add_le_add_left (by decide) _) hu) ho (call_pe tk hr hF hg ha.pa hdb hst hpl) he.pe hs).weak fun D0 σ H ⟨w, ε, S, r, o⟩ => ?_⟩
  unfold sPutT at o
  refine ⟨w, ε, S, r, (OutS.exp o).imp fun d io1 S1 H1 r1 x1 o1 v dv => ?_⟩
  obtain ⟨ds, a, kvs, h1, h2, h3, h4, h5, o1⟩ := kSlT_atS r1 o1
  refine ⟨_, h3, w.at io1, ε, S1, r1, (OutM.bnd (OutS.exp o1)).imp fun args io2 S2 H2 r2 x2 o2 vs hv => ⟨((w.at io1).at io2).bare, args, S2, fun _ => rfl, r2.entry hv, res_of r2 o2 (fun _ _ h => tc_bad h) fun s io3 S3 H3 r3 x3 o3 => ?_⟩⟩
  cases s with
  | sh d => exact (show False from o3).elim
  | rf n => exact (show False from o3).elim
  | ow d =>
    cases d with
    | list ds => exact (show False from o3).elim
    | _ => exact True.intro
  | lk d' =>
    cases d' with
    | tuple ks =>
      intro b us hb nb kd
      have o4 := o3.ret r3
      obtain ⟨⟨hk, hl⟩, o4⟩ := OutS.ite o4
      obtain ⟨key, hkey⟩ := Option.isSome_iff_exists.mp hk
      obtain ⟨rfl, ok⟩ := keysD_ok hkey
      have eu := dvs_keys kd
      subst eu
      have xx := x2.trans x3
      have h4' := r1.same (ε' := ε) (S' := S1) (σ' := σ) xx h2 h4 nt_dT
      have h5' : Kvt X.K H3 (w.at io3).mu kvs ds := h5.mono xx.ext.keep xx.ext.mus
      have mm : Kvt X.K (upd H3 a (.dT (putK kvs key v))) (((w.at io1).at io2).at io3).mu (putK kvs key v) (putT ds (.tuple (key.map kD)) d) := Kvt.mono (H := H3) (mu := (((w.at io1).at io2).at io3).mu) (fun b o n q _ => tc_upd (w := ((w.at io1).at io2).at io3) (.inr ⟨i, h2⟩) n q) (fun _ _ z => z) (kvt_put h5' ok (dv.exx xx))
      refine ⟨a, _, rfl, DPut.t h4' hb (by rw [kvt_len h5]; exact Nat.lt_of_lt_of_le hl big_le), ?_⟩
      exact OutS.nx o4 (r3.putG h1 h2 (.inr ⟨_, _, rfl, upd_same, mm⟩)) (Ext.put r3 (.inr ⟨i, h2⟩) _ nt_dT) rfl
    | _ => exact True.intro
  | _ => exact True.intro
/-! ### locked -/
theorem obk_lkd {K : PySem.W.Frag} {w : Wd} {H : Hp} {a : Addr} {d : D} {i : Nat} (h : Obk K H w.mu a d) (ha : w.om i = some a) (na : ¬ (w.clr [i]).mu a) : ∃ u, H a = some u ∧ L2.Mut (some u) ∧ ∀ od, Nt (.frz od u) ∧ Lkd K (upd H a (.frz od u)) (w.clr [i]).mu (some (.ref a)) d := by
  have kp : ∀ {od : Obj} {u : HO}, ∀ c o, ¬ w.mu c → H c = some o → Nt o → upd H a (.frz od u) c = some o := fun c o n q _ => tc_upd (.inr ⟨i, ha⟩) n q
  have mm : ∀ c, Kn H c → (w.clr [i]).mu c → w.mu c := fun c _ z => Wd.clr_mu z
  rcases h with ⟨kvs, ds, rfl, h1, h2⟩ | ⟨kvs, ds, rfl, h1, h2⟩
  · exact ⟨_, h1, trivial, fun od => ⟨nt_frK, a, od, rfl, na, .inl ⟨kvs, ds, rfl, upd_same, h2.mono kp mm⟩⟩⟩
  · exact ⟨_, h1, trivial, fun od => ⟨nt_frT, a, od, rfl, na, .inr ⟨kvs, ds, rfl, upd_same, h2.mono kp mm⟩⟩⟩
theorem Rp.clrNo {K : PySem.W.Frag} {w : Wd} {ε : Ev} {S : List D} {σ : L2.St} {H : Hp} {a : Addr} (r : Rp K w ε S σ H) (ha : w.om i = some a) : ¬ (w.clr [i]).mu a := fun z => by
  rcases z with (z | ⟨j, z⟩) | z
  · exact r.od i a ha z
  · have z : (if j ∈ [i] then none else w.om j) = some a := z
    split at z
    · cases z
    · rename_i n
      exact n (by rw [r.oi j i a z ha]; simp)
  · exact r.zd a z (.inr ⟨i, ha⟩)
theorem pss_lockR {sts : List Stmt} {t : TS} (h : PSs X sts t) : PSs X sts (fun D σ H => ∃ d u, H d = some u ∧ L2.Mut (some u) ∧ ∀ od, t D σ (upd H d (.frz od u))) := by
  refine ⟨fun pins s σ H D I hw => ?_⟩
  obtain ⟨d, u, hd, mu, hw⟩ := hw
  obtain ⟨od, I1⟩ := I.lock hd mu
  exact h.run pins s σ _ _ I1 (hw od)
theorem dss_lock {sts : List Stmt} {f : XS} (h : DSs X W sts f) : DSs X W sts (sLockK i f) := by
  refine ⟨(pss_lockR h.pss).weak fun D0 σ H ⟨w, ε, S, r, o⟩ => ?_⟩
  unfold sLockK at o
  cases e : ε[i]? with
  | none => rw [e] at o; exact o.elim
  | some s =>
    rw [e] at o
    cases s with
    | lk d =>
      obtain ⟨q, h1, a, h2, rfl, ob⟩ := r.sl i _ e
      obtain ⟨u, hu, mu, hl⟩ := obk_lkd ob h2 (r.clrNo h2)
      refine ⟨a, u, hu, mu, fun od => ?_⟩
      obtain ⟨r2, x2⟩ := r.lockG e h2 (hl od).2 (hl od).1
      exact ⟨_, _, S, r2, OutS.anch o x2 rfl⟩
    | _ => exact o.elim
theorem ps_lockR {st : Stmt} {t : TS} (h : PS X st t) : PS X st (fun D σ H => ∃ d u, H d = some u ∧ L2.Mut (some u) ∧ ∀ od, t D σ (upd H d (.frz od u))) := by
  refine ⟨fun pins s σ H D I hw => ?_⟩
  obtain ⟨d, u, hd, mu, hw⟩ := hw
  obtain ⟨od, I1⟩ := I.lock hd mu
  exact h.run pins s σ _ _ I1 (hw od)
theorem ds_lkMv (hN : X.N.Nodup) (hi : X.N[j]? = some y) (hx : Loc X.env.scope y) (he : PE X e (tVar i)) (hs : swapsWith e (some (.Name y pos')) pos.line X.env = pure false := by rfl) (hf : X.fn y = true ∨ X.env.scope.names.lookup y = some .local := by first | exact .inl rfl | exact .inr rfl | assumption) : DS X W (.Assign [.Name y pos'] e pos) (sLkMv i j) := by
  refine ⟨(ps_lockR (ps_set hN hi hx he hs hf)).weak fun D0 σ H ⟨w, ε, S, r, o⟩ => ?_⟩
  unfold sLkMv at o
  cases e : ε[i]? with
  | none => rw [e] at o; exact o.elim
  | some s =>
    rw [e] at o
    cases s with
    | lk d =>
      obtain ⟨hj, o⟩ := OutS.ite o
      obtain ⟨q, h1, a, h2, rfl, ob⟩ := r.sl i _ e
      obtain ⟨u, hu, mu, hl⟩ := obk_lkd ob h2 (r.clrNo h2)
      refine ⟨a, u, hu, mu, fun od => ?_⟩
      obtain ⟨r2, x2⟩ := r.lockG e h2 (hl od).2 (hl od).1
      have r3 := r2.set j (some (.ref a)) (.sc d) ⟨rfl, .inr (hl od).2⟩ fun d' => ⟨fun e => (by cases e), fun e => (by cases e)⟩
      exact ⟨_, h1, OutS.nx o r3 (x2.trans (Ext.clr _ _ _)) rfl⟩
    | _ => exact o.elim
/-! ### walks -/
theorem yld_keyK {K : PySem.W.Frag} {w : Wd} {H : Hp} {p : Addr} {od : Obj} {kvs : List (L2.Key × V)} {ds : List (D × D)} (hp : H p = some (.frz od (.dK kvs))) (np : ¬ w.mu p) (k : Kvs K H w.mu kvs ds) (hl : kvs.length ≤ sizeLine) : Yld K (Itk p od kvs) w H (ds.map (·.1)) := by
  have len := kvs_len k
  refine ⟨by rw [List.length_map, ← len]; exact hl, fun i w2 H2 x m => ?_⟩
  have hp2 := x.keep p _ np hp nt_frK
  refine ⟨fun d hd => ?_, fun hi => ⟨hp2, by rw [List.length_map] at hi; omega⟩⟩
  rw [List.getElem?_map] at hd
  obtain ⟨e, he, rfl⟩ := Option.map_eq_some_iff.mp hd
  obtain ⟨key, v, h1, h2, h3, h4⟩ := kvs_at k he
  have hlt := (List.getElem?_eq_some_iff.mp h1).1
  refine ⟨⟨hp2, hlt⟩, fun y H3 ⟨e1, k', v', e2, e3⟩ => ?_⟩
  subst e1 e3
  rw [h1] at e2; cases e2
  rw [h2]
  exact ⟨Grow.refl _, dv_kD h3⟩
theorem yld_keyT {K : PySem.W.Frag} {w : Wd} {H : Hp} {p : Addr} {od : Obj} {kvs : List (List L2.Key × V)} {ds : List (D × D)} (hp : H p = some (.frz od (.dT kvs))) (np : ¬ w.mu p) (k : Kvt K H w.mu kvs ds) (hl : kvs.length ≤ sizeLine) : Yld K (Itkt p od kvs) w H (ds.map (·.1)) := by
  have len := kvt_len k
  refine ⟨by rw [List.length_map, ← len]; exact hl, fun i w2 H2 x m => ?_⟩
  have hp2 := x.keep p _ np hp nt_frT
  refine ⟨fun d hd => ?_, fun hi => ⟨hp2, by rw [List.length_map] at hi; omega⟩⟩
  rw [List.getElem?_map] at hd
  obtain ⟨e, he, rfl⟩ := Option.map_eq_some_iff.mp hd
  obtain ⟨key, v, h1, h2, h3, h4⟩ := kvt_get k he
  have hlt := (List.getElem?_eq_some_iff.mp h1).1
  refine ⟨⟨hp2, hlt⟩, fun y H3 ⟨e1, k', v', q, e2, e3, e4⟩ => ?_⟩
  subst e1 e3
  rw [h1] at e2; cases e2
  rw [h2]
  refine ⟨Grow.refl _, .tup e4 (fun z => ?_) (dvs_kD h3)⟩
  obtain ⟨o, e5, mo⟩ := m q z
  rw [e4] at e5; cases e5
  rcases mo with ⟨_, e⟩ | ⟨_, e⟩ | ⟨_, e⟩ <;> cases e
theorem yld_itmK {K : PySem.W.Frag} {w : Wd} {H : Hp} {p : Addr} {od : Obj} {kvs : List (L2.Key × V)} {ds : List (D × D)} (hp : H p = some (.frz od (.dK kvs))) (np : ¬ w.mu p) (k : Kvs K H w.mu kvs ds) (hl : kvs.length ≤ sizeLine) : Yld K (Iti p od kvs) w H (ds.map fun e => .tuple [e.1, e.2]) := by
  have len := kvs_len k
  refine ⟨by rw [List.length_map, ← len]; exact hl, fun i w2 H2 x m => ?_⟩
  have hp2 := x.keep p _ np hp nt_frK
  refine ⟨fun d hd => ?_, fun hi => ⟨hp2, by rw [List.length_map] at hi; omega⟩⟩
  rw [List.getElem?_map] at hd
  obtain ⟨e, he, rfl⟩ := Option.map_eq_some_iff.mp hd
  obtain ⟨key, v, h1, h2, h3, h4⟩ := kvs_at k he
  have hlt := (List.getElem?_eq_some_iff.mp h1).1
  refine ⟨⟨hp2, hlt⟩, fun y H3 ⟨T, k', v', e2, e3, e4, e5⟩ => ?_⟩
  subst e3 e5
  rw [h1] at e2; cases e2
  rw [h2]
  exact ⟨Grow.upd e4, new_tup (fun a z => (m a z).ne) e4 (.cons (dv_kD h3) (.cons (h4.exw x) .nil))⟩
/-- what a locked slot holds -/
theorem lkd_at {K : PySem.W.Frag} {w : Wd} {ε : Ev} {S : List D} {σ : L2.St} {H : Hp} {d : D} (r : Rp K w ε S σ H) (e : ε[i]? = some (.sc d)) (hd : ∀ ds, d ≠ .list ds) : ∃ a od, σ[i]? = some (some (.ref a)) ∧ ¬ w.mu a ∧ ((∃ kvs ds, d = .dict ds ∧ H a = some (.frz od (.dK kvs)) ∧ Kvs K H w.mu kvs ds) ∨ ∃ kvs ds, d = .tuple [.dict ds] ∧ H a = some (.frz od (.dT kvs)) ∧ Kvt K H w.mu kvs ds) := by
  obtain ⟨q, h1, _, h2⟩ := r.sl i _ e
  rcases h2 with ⟨a, xs, ds, _, _, h4, _⟩ | ⟨a, od, rfl, h3, h4⟩
  · exact (hd ds h4).elim
  · exact ⟨a, od, h1, h3, h4⟩
theorem iKeyS_at {K : PySem.W.Frag} {mg : Str → Option Value} {W : WX} {w : Wd} {ε : Ev} {S : List D} {σ : L2.St} {H : Hp} {i : Nat} {P : List D → List Addr → List D → Hp → Prop} (o : OutM K mg W w ε σ H (iKeyS i ε S) P) :
    (∃ ds, ε[i]? = some (.sc (.dict ds)) ∧ OutM K mg W w ε σ H (ret (ds.map (·.1)) S) P) ∨ ∃ ds, ε[i]? = some (.sc (.tuple [.dict ds])) ∧ OutM K mg W w ε σ H (ret (ds.map (·.1)) S) P := by
  unfold iKeyS at o
  cases e : ε[i]? with
  | none => rw [e] at o; exact o.elim
  | some s =>
    rw [e] at o
    cases s with
    | sc d =>
      cases d with
      | dict ds => exact .inl ⟨ds, rfl, o⟩
      | tuple xs =>
        cases xs with
        | nil => exact o.elim
        | cons x xs =>
          cases xs with
          | nil =>
            cases x with
            | dict ds => exact .inr ⟨ds, rfl, o⟩
            | _ => exact o.elim
          | cons y ys => cases x <;> exact o.elim
      | _ => exact o.elim
    | _ => exact o.elim
theorem iItmS_at {K : PySem.W.Frag} {mg : Str → Option Value} {W : WX} {w : Wd} {ε : Ev} {S : List D} {σ : L2.St} {H : Hp} {i : Nat} {P : List D → List Addr → List D → Hp → Prop} (o : OutM K mg W w ε σ H (iItmS i ε S) P) :
    ∃ ds, ε[i]? = some (.sc (.dict ds)) ∧ OutM K mg W w ε σ H (ret (ds.map fun e => .tuple [e.1, e.2]) S) P := by
  unfold iItmS at o
  cases e : ε[i]? with
  | none => rw [e] at o; exact o.elim
  | some s =>
    rw [e] at o
    cases s with
    | sc d =>
      cases d with
      | dict ds => exact ⟨ds, rfl, o⟩
      | _ => exact o.elim
    | _ => exact o.elim
theorem xGetS_at {K : PySem.W.Frag} {mg : Str → Option Value} {W : WX} {w : Wd} {ε : Ev} {S : List D} {σ : L2.St} {H : Hp} {i : Nat} {a : XE} {P : D → List Addr → List D → Hp → Prop} (o : OutM K mg W w ε σ H (xGetS i a ε S) P) :
    ∃ ds, ε[i]? = some (.sc (.dict ds)) ∧ OutM K mg W w ε σ H (bnd (a ε) (fun k => lft (if (keyD k).isSome = true then getK ds k else none)) S) P := by
  unfold xGetS at o
  cases e : ε[i]? with
  | none => rw [e] at o; exact o.elim
  | some s =>
    rw [e] at o
    cases s with
    | sc d =>
      cases d with
      | dict ds => exact ⟨ds, rfl, o⟩
      | _ => exact o.elim
    | _ => exact o.elim
theorem di_keyS {tg : Expr} (he : PE X e (tVar i)) : DI X W tg e (iKeyS i) := by
  refine ⟨⟨fun pins s σ H R I ⟨w, ε, S, r, o⟩ => ?_⟩⟩
  refine (pi_imp (t' := fun σ' H' R' => σ' = σ ∧ H' = H ∧ R' = R) (pi_keys (tg := tg) he) fun pins' s' σ' H' R' I' ⟨e1, e2, e3⟩ => ?_).run pins s σ H R I ⟨rfl, rfl, rfl⟩
  subst e1 e2 e3
  refine ⟨R', ?_, fun _ _ _ _ q => q⟩
  obtain ⟨ds, es, o⟩ | ⟨ds, es, o⟩ := iKeyS_at o
  · skip
    obtain ⟨a, od, h1, h2, ⟨kvs, ds', e1, h3, h4⟩ | ⟨kvs, ds', e1, h3, h4⟩⟩ := lkd_at r es fun ds e => (by cases e)
    · cases e1
      obtain ⟨_, z, _⟩ := I'.hok a _ h3
      exact ⟨.ref a, h1, a, od, rfl, .inl ⟨kvs, h3, (OutM.ret o r) _ (yld_keyK h3 h2 h4 z)⟩⟩
    · cases e1
  · obtain ⟨a, od, h1, h2, ⟨kvs, ds', e1, h3, h4⟩ | ⟨kvs, ds', e1, h3, h4⟩⟩ := lkd_at r es fun ds e => (by cases e)
    · cases e1
    · cases e1
      obtain ⟨_, z, _⟩ := I'.hok a _ h3
      exact ⟨.ref a, h1, a, od, rfl, .inr ⟨kvs, h3, (OutM.ret o r) _ (yld_keyT h3 h2 h4 z)⟩⟩
theorem di_itmS {elts : List Expr} {kk : Nat} {tpos apos cpos : Pos} (he : PE X e (tVar i)) (hbase : attributeBase e "items" X.env (eval e X.env) = eval e X.env := by rfl) (hline : (apos.endLine == cpos.line) = true := by rfl) : DI X W (.Tuple elts kk tpos) (.Call (.Attribute e "items" apos) [] [] cpos) (iItmS i) := by
  refine ⟨⟨fun pins s σ H R I ⟨w, ε, S, r, o⟩ => ?_⟩⟩
  refine (pi_imp (t' := fun σ' H' R' => σ' = σ ∧ H' = H ∧ R' = R) (pi_items he hbase hline) fun pins' s' σ' H' R' I' ⟨e1, e2, e3⟩ => ?_).run pins s σ H R I ⟨rfl, rfl, rfl⟩
  subst e1 e2 e3
  refine ⟨R', ?_, fun _ _ _ _ q => q⟩
  obtain ⟨ds, es, o⟩ := iItmS_at o
  · skip
    obtain ⟨a, od, h1, h2, ⟨kvs, ds', e1, h3, h4⟩ | ⟨kvs, ds', e1, h3, h4⟩⟩ := lkd_at r es fun ds e => (by cases e)
    · cases e1
      obtain ⟨_, z, _⟩ := I'.hok a _ h3
      exact ⟨.ref a, h1, a, od, kvs, rfl, h3, (OutM.ret o r) _ (yld_itmK h3 h2 h4 z)⟩
    · cases e1
theorem de_getS {k : Expr} {fk : XE} (hu : X.A.units + 100 < cLine) (ho : PE X (.Name x p1) (tVar i)) (hk : DE X W k fk) (hs : NoSl k) : DE X W (.Subscript (.Name x p1) k pos) (xGetS i fk) := by
  refine ⟨(pe_dget (Nat.lt_of_le_of_lt (Nat.add_le_add_left (by decide) _) hu) ho hk.pe hs).weak fun σ H Q ⟨w, ε, S, r, o⟩ => ?_⟩
  obtain ⟨ds, es, o⟩ := xGetS_at o
  · skip
    obtain ⟨a, od, h1, h2, ⟨kvs, ds', e1, h3, h4⟩ | ⟨kvs, ds', e1, h3, h4⟩⟩ := lkd_at r es fun ds e => (by cases e)
    · cases e1
      refine ⟨_, h1, w, ε, S, r, (OutM.bnd o).imp fun d io1 S1 H1 r1 x1 o1 v dv => ?_⟩
      obtain ⟨m, e1, q⟩ := OutM.lft o1 r1
      obtain ⟨hk, e1⟩ := if_some e1
      obtain ⟨key, hkey⟩ := Option.isSome_iff_exists.mp hk
      obtain ⟨rfl, ok⟩ := keyD_ok hkey
      have := dv_key dv
      subst this
      obtain ⟨v, e2, dv2⟩ := (kvs_get (h4.exx x1)).1 m e1
      have h3' : H1 a = some (.frz od (.dK kvs)) := x1.ext.keep a _ h2 h3 nt_frK
      exact ⟨a, v, rfl, .inl ⟨kvs, key, .inr ⟨od, h3'⟩, rfl, e2.symm⟩, q H1 (Grow.refl H1) v dv2⟩
    · cases e1
end
end
end Tn
end

section
set_option Elab.async false
set_option linter.all false
set_option maxRecDepth 100000
set_option maxHeartbeats 1000000
/-! an expression that walks over a list of one's own that is changed later -/
namespace Tn
open PySem PySem.Spec PyProof.Rows L2
section
variable {K : PySem.W.Frag} {H : Hp} {mu mu' : Addr → Prop} {a : Addr} {u : HO}
mutual
theorem Dv.unl (fz : ∀ xs, H a ≠ some (.lst xs) ∧ H a ≠ some (.tup xs)) (m : ∀ b, mu' b → mu b ∨ b = a) : ∀ (d : D) (v : V), Dv K H mu v d → Dv K (upd H a u) mu' v d
  | .none, _, h => by cases h; exact .non
  | .bool _, _, h => by cases h; exact .bl _
  | .int _, _, h => by cases h; exact .int _
  | .str _, _, h => by cases h with | str x hx => exact .str _ hx
  | .list ds, _, h => by
    cases h with
    | lst h1 h2 h3 =>
      rename_i b xs
      have nb : b ≠ a := fun e => (fz xs).1 (by rw [← e]; exact h1)
      exact .lst (by rw [upd_ne nb]; exact h1) (fun z => (m b z).elim h2 nb) (Dvs.unl fz m ds _ h3)
  | .tuple ds, _, h => by
    cases h with
    | tup h1 h2 h3 =>
      rename_i b xs
      have nb : b ≠ a := fun e => (fz xs).2 (by rw [← e]; exact h1)
      exact .tup (by rw [upd_ne nb]; exact h1) (fun z => (m b z).elim h2 nb) (Dvs.unl fz m ds _ h3)
    | tupK h1 h3 => exact .tupK h1 (Dvs.unl fz m ds _ h3)
  | .dict _, _, h => by cases h
theorem Dvs.unl (fz : ∀ xs, H a ≠ some (.lst xs) ∧ H a ≠ some (.tup xs)) (m : ∀ b, mu' b → mu b ∨ b = a) : ∀ (ds : List D) (vs : List V), Dvs K H mu vs ds → Dvs K (upd H a u) mu' vs ds
  | [], _, h => by cases h; exact .nil
  | d :: ds, _, h => by
    cases h with
    | cons h1 h2 => exact .cons (Dv.unl fz m d _ h1) (Dvs.unl fz m ds _ h2)
end
end
section
variable [TB]
section
variable {K : PySem.W.Frag} {w : Wd} {ε : Ev} {S : List D} {σ : L2.St} {H : Hp}
theorem Rp.lockV {i : Nat} {a : Addr} {d : D} {s0 : Sl} {u : HO} (r : Rp K w ε S σ H) (e : ε[i]? = some s0) (ha : w.om i = some a) (hσ : σ[i]? = some (some (.ref a))) (vl : Vl K (upd H a u) (w.clr [i]).mu w.io (some (.ref a)) none (.sc d)) (nu : Nt u) :
    Rp K (w.clr [i]) (ε.set i (.sc d)) S σ (upd H a u) ∧ Ext w H (w.clr [i]) (upd H a u) := by
  have kp : ∀ c o, ¬ w.mu c → H c = some o → Nt o → upd H a u c = some o := fun c o n q _ => tc_upd (.inr ⟨i, ha⟩) n q
  have mm : ∀ c, Kn H c → (w.clr [i]).mu c → w.mu c := fun c _ z => Wd.clr_mu z
  have hi : i < ε.length := (List.getElem?_eq_some_iff.mp e).1
  refine ⟨⟨r.ls, r.nd, fun j k b h1 h2 => ?_, fun j b h1 => ?_, fun b h t => r.zd b h (Wd.clr_tc t), fun b z => ?_, ?_, fun n b d h1 h2 => ?_, fun j s h1 => ?_, fun j h1 => ?_, by rw [List.length_set]; exact r.le⟩, ⟨List.prefix_rfl, fun _ h => .inl h, fun b o n q k => ?_, fun b t => .inl (Wd.clr_tc t), fun b q => ?_⟩⟩
  · have h1 : (if j ∈ [i] then none else w.om j) = some b := h1
    have h2 : (if k ∈ [i] then none else w.om k) = some b := h2
    split at h1
    · cases h1
    · split at h2
      · cases h2
      · exact r.oi j k b h1 h2
  · have h1 : (if j ∈ [i] then none else w.om j) = some b := h1
    split at h1
    · cases h1
    · exact r.od j b h1
  · have hb : b ≠ a := fun e => by subst e; exact r.zd b z (.inr ⟨i, ha⟩)
    obtain ⟨u, q1, q2⟩ := r.zh b z
    exact ⟨u, by rw [upd_ne hb]; exact q1, q2⟩
  · obtain ⟨o, hx, mo⟩ := r.tcl (.inr ⟨i, ha⟩); exact tabs_mo r.tt hx mo
  · have hb : b ≠ a := fun e => by subst e; exact r.od i b ha (List.mem_of_getElem? h1)
    exact (r.st n b d h1 h2).mono kp mm (upd_ne hb)
  · by_cases ej : i = j
    · subst ej
      rw [List.getElem?_set_self hi] at h1
      cases h1
      refine ⟨_, hσ, ?_⟩
      have e2 : (w.clr [i]).om i = none := by show (if i ∈ [i] then none else w.om i) = none; simp
      rw [e2]; exact vl
    · rw [List.getElem?_set_ne ej] at h1
      obtain ⟨o, h2, h3⟩ := r.sl j s h1
      have e2 : (w.clr [i]).om j = w.om j := by
        show (if j ∈ [i] then none else w.om j) = w.om j
        rw [if_neg (by simpa using fun z => ej z.symm)]
      refine ⟨o, h2, ?_⟩
      rw [e2]
      exact h3.mono kp mm fun b e2 => upd_ne fun e3 => by subst e3; exact ej (r.oi i j _ ha e2)
  · rw [List.length_set] at h1
    show (if j ∈ [i] then none else w.om j) = none
    rw [r.so j h1]; simp
  · exact by rw [upd_ne (fun e => n (by subst e; exact .inr ⟨i, ha⟩))]; exact q
  · by_cases hb : b = a
    · subst hb; exact ⟨u, upd_same, nu⟩
    · obtain ⟨o, q1, q2⟩ := q
      exact ⟨o, by rw [upd_ne hb]; exact q1, q2⟩
/-- the lock is taken away -/
theorem unlockL {i : Nat} {a : Addr} {xs : List V} {od : Obj} {ε1 : Ev} {S' : List D} {σ1 : L2.St} {H' : Hp} {io' : List Addr} (r : Rp K w ε S σ H) (ha : w.om i = some a) (hx : H a = some (.lst xs)) (r' : Rp K ((w.clr [i]).at io') ε1 S' σ1 H') (x' : Exx (w.clr [i]) (upd H a (.frz od (.lst xs))) io' H') :
    H' a = some (.frz od (.lst xs)) ∧ Rp K (w.at io') ε S' σ (upd H' a (.lst xs)) ∧ Exx w H io' (upd H' a (.lst xs)) ∧ ∀ d v, Dv K H' ((w.clr [i]).at io').mu v d → Dv K (upd H' a (.lst xs)) (w.at io').mu v d := by
  have nio : a ∉ w.io := r.od i a ha
  have fz : H' a = some (.frz od (.lst xs)) := x'.kw a _ nio upd_same nt_frz
  have nf : ∀ ys, H' a ≠ some (.lst ys) ∧ H' a ≠ some (.tup ys) := fun ys => ⟨fun e => (by rw [fz] at e; cases e), fun e => (by rw [fz] at e; cases e)⟩
  have nio' : a ∉ io' := fun z => by
    obtain ⟨n, hn⟩ := List.getElem?_of_mem z
    have hl : n < S'.length := by rw [← r'.ls]; exact (List.getElem?_eq_some_iff.mp hn).1
    obtain ⟨ys, e⟩ := (r'.st n a _ hn (List.getElem?_eq_getElem hl)).li
    exact (nf ys).1 e
  have kn0 : ∀ b, Kn H b → Kn (upd H a (.frz od (.lst xs))) b := fun b k => by
    by_cases hb : b = a
    · subst hb; exact ⟨_, upd_same, nt_frz⟩
    · obtain ⟨o, q1, q2⟩ := k
      exact ⟨o, by rw [upd_ne hb]; exact q1, q2⟩
  have ex : Exx w H io' (upd H' a (.lst xs)) := ⟨x'.pre, fun b o n q k => by
    by_cases hb : b = a
    · subst hb; rw [hx] at q; cases q; exact upd_same
    · rw [upd_ne hb]; exact x'.kw b o n (by rw [upd_ne hb]; exact q) k, fun b hb => by
    rcases x'.ni b hb with h | h
    · exact .inl h
    · exact .inr fun k => h (kn0 b k), fun b k => by
    by_cases hb : b = a
    · subst hb; exact ⟨_, upd_same, nt_lst⟩
    · obtain ⟨o, q1, q2⟩ := x'.dm b (kn0 b k)
      exact ⟨o, by rw [upd_ne hb]; exact q1, q2⟩⟩
  have mu : ∀ b, (w.at io').mu b → ((w.clr [i]).at io').mu b ∨ b = a := fun b z => by
    rcases z with (z | ⟨j, z⟩) | z
    · exact .inl (.inl (.inl z))
    · by_cases hj : j = i
      · subst hj
        have z : w.om j = some b := z
        rw [ha] at z; cases z; exact .inr rfl
      · refine .inl (.inl (.inr ⟨j, ?_⟩))
        show (if j ∈ [i] then none else w.om j) = some b
        rw [if_neg (by simpa using hj)]; exact z
    · exact .inl (.inr z)
  have dvs : ∀ ds vs, Dvs K H' ((w.clr [i]).at io').mu vs ds → Dvs K (upd H' a (.lst xs)) (w.at io').mu vs ds := fun ds vs h => Dvs.unl nf mu ds vs h
  refine ⟨fz, ⟨r'.ls, r'.nd, r.oi, fun j b h z => ?_, fun b z t => ?_, fun b z => ?_, ?_, fun n b d h1 h2 => ?_, fun j s h => ?_, r.so, r.le⟩, ex, fun d v h => Dv.unl nf mu d v h⟩
  · by_cases hj : j = i
    · subst hj
      have h : w.om j = some b := h
      rw [ha] at h; cases h; exact nio' z
    · refine r'.od j b ?_ z
      show (if j ∈ [i] then none else w.om j) = some b
      rw [if_neg (by simpa using hj)]; exact h
  · rcases t with t | t
    · exact r'.zd b z (.inl t)
    · exact r.zd b z (.inr t)
  · have hb : b ≠ a := fun e => by subst e; exact r.zd b z (.inr ⟨i, ha⟩)
    obtain ⟨o, q1, q2⟩ := r'.zh b z
    exact ⟨o, by rw [upd_ne hb]; exact q1, q2⟩
  · intro p hp
    obtain ⟨ps, h1, h2, h3⟩ := r'.tt p hp
    refine ⟨ps, by rw [upd_ne (fun e => by rw [e, fz] at h1; cases h1)]; exact h1, h2, fun pos cv hc => ?_⟩
    obtain ⟨c, e1, e2⟩ := h3 pos cv hc
    refine ⟨c, e1, ?_⟩
    rw [upd_ne (fun e => by rw [e, fz] at e2; unfold LamX.CodeO at e2; cases e2)]; exact e2
  · have hb : b ≠ a := fun e => by subst e; exact nio' (List.mem_of_getElem? h1)
    obtain ⟨ys, ds, e1, e2, e3⟩ := r'.st n b d h1 h2
    exact ⟨ys, ds, e1, by rw [upd_ne hb]; exact e2, dvs ds ys e3⟩
  · obtain ⟨o, h1, h2⟩ := r.sl j s h
    refine ⟨o, h1, (h2.pre ex.pre).mono ex.ext.keep ex.ext.mus fun b e => ?_⟩
    obtain ⟨u, q, nu⟩ := r.tch (.inr ⟨j, e⟩)
    rw [q]
    exact ex.kw b u (r.od j b e) q nu
end
/-- an expression in which x, a list of one's own, is walked -/
def xLkL (i : Nat) (f : XE) : XE := fun ε => match ε[i]? with
  | some (.ow (.list ds)) => qt (f (ε.set i (.sc (.list ds))))
  | _ => stk
theorem de_lkL {X : Cx} {W : WX} {i : Nat} {e : Expr} {f : XE} (he : DE X W0 e f) : DE X W e (xLkL i f) := by
  refine ⟨(pe_lock he.pe).weak fun σ H Q ⟨w, ε, S, r, o⟩ => ?_⟩
  unfold xLkL at o
  cases es : ε[i]? with
  | none => rw [es] at o; exact o.elim
  | some s =>
    rw [es] at o
    cases s with
    | ow d =>
      obtain ⟨q, h1, a, h2, rfl, xs, ds, rfl, h3, h4⟩ := r.sl i _ es
      have o : OutM X.K X.mg W w ε σ H (qt (f (ε.set i (.sc (.list ds)))) S) _ := o
      refine ⟨a, .lst xs, h3, trivial, fun od => ?_⟩
      have kp : ∀ c o, ¬ w.mu c → H c = some o → Nt o → upd H a (.frz od (.lst xs)) c = some o := fun c o n q _ => tc_upd (.inr ⟨i, h2⟩) n q
      obtain ⟨r2, x2⟩ := r.lockV (u := .frz od (.lst xs)) (d := .list ds) es h2 h1 ⟨rfl, .inl ⟨a, xs, ds, rfl, .inl ⟨r.clrNo h2, .inr ⟨od, upd_same⟩⟩, rfl, Dvs.mono kp (fun c _ z => Wd.clr_mu z) ds xs h4⟩⟩ nt_frz
      refine ⟨_, _, S, r2, ?_⟩
      unfold qt at o
      cases ef : f (ε.set i (.sc (.list ds))) S with
      | none => rw [ef] at o; exact o.elim
      | some res =>
        rw [ef] at o
        cases res with
        | ex x S1 => exact o.elim
        | ok d S1 =>
          intro io' H' r' x' v dv
          obtain ⟨fz, r3, x3, dvm⟩ := unlockL r h2 h3 r' x'
          exact ⟨fz, o io' _ r3 x3 v (dvm d v dv)⟩
    | _ => exact o.elim
end
end Tn
end

section
set_option Elab.async false
set_option linter.all false
set_option maxRecDepth 100000
set_option maxHeartbeats 1000000
/-! plain reasoning over what programs compute -/
namespace Tn
open PySem
/-- a statement whose parts are not looked into -/
structure Un {β γ : Type} (x : β) (y : γ) : Type where mk ::
/-- it ends well in Q, or by an error in E -/
def Wp {α : Type} (r : Option (Res α)) (Q : α → List D → Prop) (E : Ex → List D → Prop) (u : Un Q E := ⟨⟩) : Prop :=
  match r with
  | some (.ok a S') => Q a S'
  | some (.ex e S') => E e S'
  | none => False
section
variable {α β : Type} {S : List D} {Q Q' : α → List D → Prop} {E E' : Ex → List D → Prop}
@[simp ↓] theorem wp_ok {a : α} : Wp (some (.ok a S)) Q E ↔ Q a S := Iff.rfl
@[simp ↓] theorem wp_ex {e : Ex} : Wp (some (.ex e S) : Option (Res α)) Q E ↔ E e S := Iff.rfl
@[simp ↓] theorem wp_no : Wp (none : Option (Res α)) Q E ↔ False := Iff.rfl
theorem wp_ret {a : α} : Wp (ret a S) Q E ↔ Q a S := Iff.rfl
theorem wp_stk : Wp ((stk : M α) S) Q E ↔ False := Iff.rfl
theorem wp_rse {e : Ex} : Wp ((rse e : M α) S) Q E ↔ E e S := Iff.rfl
theorem wp_bnd {m : M β} {k : β → M α} : Wp (bnd m k S) Q E ↔ Wp (m S) (fun a S' => Wp (k a S') Q E) E := by
  unfold bnd
  cases m S with
  | none => exact Iff.rfl
  | some r => cases r <;> exact Iff.rfl
theorem wp_lft {a : α} : Wp (lft (some a) S) Q E ↔ Q a S := Iff.rfl
theorem wp_lft0 : Wp (lft (none : Option α) S) Q E ↔ False := Iff.rfl
theorem wp_lft_iff {o : Option α} : Wp (lft o S) Q E ↔ ∃ a, o = some a ∧ Q a S := by
  cases o with
  | none => exact ⟨fun h => h.elim, fun ⟨_, h, _⟩ => by cases h⟩
  | some a => exact ⟨fun h => ⟨a, rfl, h⟩, fun ⟨_, h, q⟩ => by cases h; exact q⟩
theorem Wp.mono {r : Option (Res α)} (h : Wp r Q E) (q : ∀ a S', Q a S' → Q' a S') (e : ∀ x S', E x S' → E' x S') : Wp r Q' E' := by
  cases r with
  | none => exact h
  | some r =>
    cases r with
    | ok a S1 => exact q _ _ h
    | ex x S1 => exact e _ _ h
theorem wp_iff {r : Option (Res α)} (h : ∀ a S', Q a S' ↔ Q' a S') : Wp r Q E ↔ Wp r Q' E := ⟨fun w => w.mono (fun a S' => (h a S').mp) fun _ _ h => h, fun w => w.mono (fun a S' => (h a S').mpr) fun _ _ h => h⟩
theorem Wp.of {r : Option (Res α)} {a : α} {S' : List D} (h : r = some (.ok a S')) (q : Q a S') : Wp r Q E := by rw [h]; exact q
theorem Wp.ofx {r : Option (Res α)} {x : Ex} {S' : List D} (h : r = some (.ex x S')) (q : E x S') : Wp r Q E := by rw [h]; exact q
/-- ends well -/
theorem wp_run {r : Option (Res α)} : Wp r Q (fun _ _ => False) ↔ ∃ a S', r = some (.ok a S') ∧ Q a S' := by
  constructor
  · intro h
    cases r with
    | none => exact h.elim
    | some r =>
      cases r with
      | ok a S1 => exact ⟨a, S1, rfl, h⟩
      | ex x S1 => exact h.elim
  · rintro ⟨a, S', e, h⟩
    rw [e]; exact h
end
/-! ### names -/
section
variable {α : Type} {S : List D} {Q : D → List D → Prop} {E : Ex → List D → Prop} {ε : Ev} {i : Nat} {d : D} {n : Nat}
theorem xV_at (h : ε[i]? = some (.sh d)) : xV i ε = ret d := by unfold xV; rw [h]
theorem xB_sh (h : ε[i]? = some (.sh d)) : xB i ε = ret d := by unfold xB; rw [h]
theorem xB_ow (h : ε[i]? = some (.ow d)) : xB i ε = ret d := by unfold xB; rw [h]
theorem wp_rf (h : ε[i]? = some (.rf n)) (h2 : S[n]? = some d) : Wp (xB i ε S) Q E ↔ Q d S := by
  unfold xB
  rw [h]
  simp only [h2]
  exact Iff.rfl
end
/-! ### whole numbers -/
section
variable {i j : Int}
@[simp] theorem opAdd_int : opAdd (.int i) (.int j) = some (.int (i + j)) := rfl
@[simp] theorem opAddI_int : opAddI (.int i) (.int j) = some (.int (i + j)) := rfl
@[simp] theorem opSub_int : opSub (.int i) (.int j) = some (.int (i - j)) := rfl
@[simp] theorem opNeg_int : opNeg (.int i) = some (.int (-i)) := rfl
@[simp] theorem opLt_int : opLt (.int i) (.int j) = some (.bool (decide (i < j))) := rfl
@[simp] theorem opLe_int : opLe (.int i) (.int j) = some (.bool (decide (i ≤ j))) := rfl
@[simp] theorem opGt_int : opGt (.int i) (.int j) = some (.bool (decide (j < i))) := rfl
@[simp] theorem opGe_int : opGe (.int i) (.int j) = some (.bool (decide (j ≤ i))) := rfl
@[simp] theorem opInt_int : opInt (.int i) = some (.int i) := rfl
@[simp] theorem opMax2_int : opMax2 (.int i) (.int j) = some (.int (if j > i then j else i)) := rfl
@[simp] theorem opMin2_int : opMin2 (.int i) (.int j) = some (.int (if j < i then j else i)) := rfl
@[simp] theorem opAbs_int : opAbs (.int i) = some (.int (if i < 0 then -i else i)) := rfl
theorem opMod_int (h : 0 < j) : opMod (.int i) (.int j) = some (.int (i % j)) := by show (if 0 < j then some (PyData.int (i % j)) else none) = _; rw [if_pos h]
theorem opFd_int (h : 0 < j) (h2 : j < 2 ^ 64) : opFd (.int i) (.int j) = some (.int (i / j)) := by
  show (if decide (0 < j) && decide (j.natAbs.log2 < 9000) then some (PyData.int (i / j)) else none) = _
  have h3 : j.natAbs.log2 < 9000 := by
    have a : j.natAbs ≠ 0 := by omega
    have b : j.natAbs.log2 < 64 := (Nat.log2_lt a).mpr (by omega)
    omega
  rw [if_pos (by rw [Bool.and_eq_true]; exact ⟨decide_eq_true h, decide_eq_true h3⟩)]
theorem opMul_l (h : i.natAbs < 2 ^ 63) : opMul (.int i) (.int j) = some (.int (i * j)) := by
  show (if mulOk i j then some (PyData.int (i * j)) else none) = _
  unfold mulOk
  rw [if_pos (by rw [decide_eq_true h]; rfl)]
theorem opMul_r (h : j.natAbs < 2 ^ 63) : opMul (.int i) (.int j) = some (.int (i * j)) := by
  show (if mulOk i j then some (PyData.int (i * j)) else none) = _
  unfold mulOk
  rw [if_pos (by rw [decide_eq_true h, Bool.or_true]; rfl)]
@[simp] theorem isNone_int : isNone (.int i) = false := rfl
@[simp] theorem isNone_none : isNone .none = true := rfl
@[simp] theorem truthO_bool {b : Bool} : truthO (.bool b) = some b := rfl
@[simp] theorem truthO_int : truthO (.int i) = some (i != 0) := rfl
@[simp] theorem truthO_none : truthO .none = some false := rfl
@[simp] theorem seqOf_list {xs : List D} : seqOf (.list xs) = some xs := rfl
@[simp] theorem seqOf_tuple {xs : List D} : seqOf (.tuple xs) = some xs := rfl
@[simp] theorem opLen_list {xs : List D} : opLen (.list xs) = some (.int xs.length) := rfl
@[simp] theorem opLen_tuple {xs : List D} : opLen (.tuple xs) = some (.int xs.length) := rfl
@[simp] theorem opTuple_list {xs : List D} : opTuple (.list xs) = some (.tuple xs) := rfl
@[simp] theorem opTuple_tuple {xs : List D} : opTuple (.tuple xs) = some (.tuple xs) := rfl
@[simp] theorem opRevT_tuple {xs : List D} : opRevT (.tuple xs) = some (.tuple xs.reverse) := rfl
@[simp] theorem opRevT_list {xs : List D} : opRevT (.list xs) = some (.list xs.reverse) := rfl
@[simp] theorem opIsN_eq {x : D} : opIsN x = some (.bool (isNone x)) := rfl
@[simp] theorem opNotN_eq {x : D} : opNotN x = some (.bool (!isNone x)) := rfl
@[simp] theorem opIs_eq {t : Ty} {x : D} : opIs t x = some (.bool (isOf t x)) := rfl
theorem opIx_list {xs : List D} {k : Nat} {d : D} (h : xs[k]? = some d) : opIx (.list xs) (.int k) = some d := by
  have hl := (List.getElem?_eq_some_iff.mp h).1
  show atL xs k = _
  unfold atL pyIx
  rw [if_pos (by omega), if_pos (by omega)]
  simpa using h
theorem opIx_tup {xs : List D} {k : Nat} {d : D} (h : xs[k]? = some d) : opIx (.tuple xs) (.int k) = some d := opIx_list (xs := xs) h
theorem opEq_int : opEq (.int i) (.int j) = some (.bool (decide (i = j))) := by
  unfold opEq
  rw [if_pos (.inl (by simp [PyData.depth]))]
  rfl
theorem opNe_int : opNe (.int i) (.int j) = some (.bool (!decide (i = j))) := by
  unfold opNe
  rw [if_pos (.inl (by simp [PyData.depth]))]
  rfl
end
end Tn
end

section
set_option Elab.async false
set_option linter.all false
set_option maxRecDepth 100000
set_option maxHeartbeats 4000000
/-! several names at once, each a value, a new list or a new dict; swapped or by a tuple -/
namespace Tn
open PySem PySem.Spec PyProof.Rows L2
inductive Pq where | v (e : XE) | n (l : XL) | k (f : XK')
def pqE (p : Pq) : Ev → M Sl := fun ε => match p with
  | .v e => bnd (e ε) fun d => ret (.sh d)
  | .n l => bnd (l ε) fun ds => ret (.ow (.list ds))
  | .k f => bnd (f ε) fun ds => ret (.lk (.dict ds))
def pqQ {α : Type} (p : Pq) (m : M α) : M α := match p with
  | .v _ => m
  | _ => qt m
def pqs : List Pq → Ev → M (List Sl)
  | [], _ => ret []
  | p :: ps, ε => bnd (pqE p ε) fun a => bnd (pqQ p (pqs ps ε)) fun as => ret (a :: as)
def setSl : List Nat → List Sl → Ev → Ev
  | i :: is, s :: ss, ε => setSl is ss (ε.set i s)
  | _, _, ε => ε
def setVs : List Nat → List V → L2.St → L2.St
  | i :: is, v :: vs, σ => setVs is vs (σ.set i (some v))
  | _, _, σ => σ
def sPars (is : List Nat) (ps : List Pq) : XS := fun ε => if (is.all fun i => decide (i < ε.length)) = true then bnd (pqs ps ε) fun vs => ret (.nx (setSl is vs ε)) else stk
def tail1 (a : Sl) : Option (Res (List Sl)) → Option (Res (List Sl))
  | none => none
  | some (.ex e S2) => some (.ex e S2)
  | some (.ok ss S2) => some (.ok (a :: ss) S2)
def tail2 (a : Sl) : Option (Res (List Sl)) → Option (Res (List Sl))
  | some (.ok ss S2) => some (.ok (a :: ss) S2)
  | _ => none
def head1 {α : Type} (o : Option (Res α)) (k : α → List D → Option (Res (List Sl))) : Option (Res (List Sl)) := match o with
  | none => none
  | some (.ex e S1) => some (.ex e S1)
  | some (.ok d S1) => k d S1
theorem pqs_v {f : XE} {ps : List Pq} {ε : Ev} {S : List D} : pqs (.v f :: ps) ε S = head1 (f ε S) fun d S1 => tail1 (.sh d) (pqs ps ε S1) := by
  show bnd (bnd (f ε) fun d => ret (.sh d)) (fun a => bnd (pqs ps ε) fun as => ret (a :: as)) S = _
  rw [bnd_bnd]
  unfold bnd head1
  cases f ε S with
  | none => rfl
  | some r =>
    cases r with
    | ex e S1 => rfl
    | ok d S1 =>
      simp only [ret_app]
      cases pqs ps ε S1 with
      | none => rfl
      | some r => cases r <;> rfl
theorem pqs_n {f : XL} {ps : List Pq} {ε : Ev} {S : List D} : pqs (.n f :: ps) ε S = head1 (f ε S) fun d S1 => tail2 (.ow (.list d)) (pqs ps ε S1) := by
  show bnd (bnd (f ε) fun d => ret (.ow (.list d))) (fun a => bnd (qt (pqs ps ε)) fun as => ret (a :: as)) S = _
  rw [bnd_bnd]
  unfold bnd head1
  cases f ε S with
  | none => rfl
  | some r =>
    cases r with
    | ex e S1 => rfl
    | ok d S1 =>
      simp only [ret_app]
      unfold qt
      cases pqs ps ε S1 with
      | none => rfl
      | some r => cases r <;> rfl
theorem pqs_k {f : XK'} {ps : List Pq} {ε : Ev} {S : List D} : pqs (.k f :: ps) ε S = head1 (f ε S) fun d S1 => tail2 (.lk (.dict d)) (pqs ps ε S1) := by
  show bnd (bnd (f ε) fun d => ret (.lk (.dict d))) (fun a => bnd (qt (pqs ps ε)) fun as => ret (a :: as)) S = _
  rw [bnd_bnd]
  unfold bnd head1
  cases f ε S with
  | none => rfl
  | some r =>
    cases r with
    | ex e S1 => rfl
    | ok d S1 =>
      simp only [ret_app]
      unfold qt
      cases pqs ps ε S1 with
      | none => rfl
      | some r => cases r <;> rfl
section
variable [TB]
section
variable {K : PySem.W.Frag} {w : Wd} {ε : Ev} {S : List D} {σ : L2.St} {H H2 : Hp} {a : Addr}
def Wd.adT (w : Wd) (T : List Addr) : Wd := { w with zt := fun b => w.z b ∨ b ∈ T }
theorem adT_nil : w.adT [] = w := by
  unfold Wd.adT
  have : (fun b => w.z b ∨ b ∈ ([] : List Addr)) = w.zt := funext fun b => propext ⟨fun h => h.elim id fun h => absurd h List.not_mem_nil, fun h => .inl h⟩
  rw [this]
theorem adT_cons {p : Addr} {T : List Addr} : w.adT (p :: T) = (w.adT T).ad p := by
  unfold Wd.adT Wd.ad
  have : (fun b => w.z b ∨ b ∈ p :: T) = (fun b => (w.z b ∨ b ∈ T) ∨ b = p) := funext fun b => propext ⟨fun h => by
    rcases h with h | h
    · exact .inl (.inl h)
    · rcases List.mem_cons.mp h with h | h
      · exact .inr h
      · exact .inl (.inr h), fun h => by
    rcases h with (h | h) | h
    · exact .inl h
    · exact .inr (List.mem_cons_of_mem _ h)
    · exact .inr (by rw [h]; exact List.mem_cons_self)⟩
  rw [this]
theorem adT_ad {p : Addr} {T : List Addr} : (w.ad p).adT T = w.adT (p :: T) := by
  unfold Wd.adT Wd.ad
  have : (fun b => (w.z b ∨ b = p) ∨ b ∈ T) = (fun b => w.z b ∨ b ∈ p :: T) := funext fun b => propext ⟨fun h => by
    rcases h with (h | h) | h
    · exact .inl h
    · exact .inr (by rw [h]; exact List.mem_cons_self)
    · exact .inr (List.mem_cons_of_mem _ h), fun h => by
    rcases h with h | h
    · exact .inl (.inl h)
    · rcases List.mem_cons.mp h with h | h
      · exact .inl (.inr h)
      · exact .inr h⟩
  show ({ io := w.io, om := w.om, zt := fun b => (w.z b ∨ b = p) ∨ b ∈ T } : Wd) = _
  rw [this]
theorem adT_mu {T : List Addr} {b : Addr} : (w.adT T).mu b ↔ w.mu b ∨ b ∈ T := by
  constructor
  · rintro (h | h | h)
    · exact .inl (.inl h)
    · exact .inl (.inr h)
    · exact .inr h
  · rintro ((h | h) | h)
    · exact .inl h
    · exact .inr (.inl h)
    · exact .inr (.inr h)
/-- what stands at such a place is forgotten -/
theorem Rp.delM {o : HO} (r : Rp K (w.ad a) ε S σ H) (hz : ¬ w.z a) (hx : H a = some o) (m : Mo o) : Rp K w ε S σ (Tn.del H a) where
  ls := r.ls
  nd := r.nd
  oi := r.oi
  od := r.od
  zd := fun b z t => r.zd b (.inl z) t
  zh := fun b z => by
    have hb : b ≠ a := fun e => by subst e; exact hz z
    obtain ⟨o, q, n⟩ := r.zh b (.inl z)
    exact ⟨o, by rw [del_ne hb]; exact q, n⟩
  tt := tabs_delM r.tt hx m
  st := fun n b d h1 h2 => by
    have hb : b ≠ a := fun e => by subst e; exact r.zd b (.inr rfl) (.inl (List.mem_of_getElem? h1))
    exact (r.st n b d h1 h2).mono (fun c o n q _ => by rw [del_ne (fun e => n (by subst e; exact .inr (.inr rfl)))]; exact q) (fun _ _ z => Wd.ad_mu.mpr (.inl z)) (del_ne hb)
  sl := fun i s h1 => by
    obtain ⟨o', h2, h3⟩ := r.sl i s h1
    refine ⟨o', h2, h3.mono (fun c o n q _ => by rw [del_ne (fun e => n (by subst e; exact .inr (.inr rfl)))]; exact q) (fun _ _ z => Wd.ad_mu.mpr (.inl z)) fun b e => del_ne fun e2 => ?_⟩
    subst e2
    exact r.zd b (.inr rfl) (.inr ⟨i, e⟩)
  so := r.so
  le := r.le
theorem Rp.ownZd {i : Nat} {p : Addr} {kvs : List (L2.Key × V)} {ds : List (D × D)} (r : Rp K (w.ad p) ε S σ H) (hz : ¬ w.z p) (hp : H p = some (.dK kvs)) (k : Kvs K H (w.ad p).mu kvs ds) (hi : i < ε.length) :
    Rp K (w.own i p) (ε.set i (.lk (.dict ds))) S (σ.set i (some (.ref p))) H := by
  have k2 : Kvs K (Tn.del H p) w.mu kvs ds := k.mono (fun c o n q _ => by rw [del_ne (fun e => n (by subst e; exact .inr (.inr rfl)))]; exact q) (fun _ _ z => Wd.ad_mu.mpr (.inl z))
  have := ((Rp.delM r hz hp (mo_k)).ownD del_same k2 i hi).1
  rwa [upd_del hp] at this
theorem Exx.drop {p : Addr} {o : HO} {io2 : List Addr} (hp : H p = none) (x : Exx (w.ad p) (upd H p o) io2 H2) : Exx w H io2 H2 :=
  ⟨x.pre, fun b u n q k => x.kw b u n (Grow.upd hp b u q) k, fun b t => by
    rcases x.ni b t with t | t
    · exact .inl t
    · exact .inr fun k => t ((Grow.upd hp).kn k), fun b h => x.dm b ((Grow.upd hp).kn h)⟩
/-- values and lists on their way to names -/
def Fly (K : PySem.W.Frag) (H : Hp) (mu : Addr → Prop) : List V → List Sl → List Addr → Prop
  | [], [], [] => True
  | v :: vs, .sh d :: ss, T => Dv K H mu v d ∧ Fly K H mu vs ss T
  | v :: vs, .ow d :: ss, p :: T => (v = .ref p ∧ ∃ us ds, d = .list ds ∧ H p = some (.lst us) ∧ Dvs K H mu us ds) ∧ Fly K H mu vs ss T
  | v :: vs, .lk d :: ss, p :: T => (v = .ref p ∧ ∃ kvs ds, d = .dict ds ∧ H p = some (.dK kvs) ∧ Kvs K H mu kvs ds) ∧ Fly K H mu vs ss T
  | _, _, _ => False
theorem Fly.mono {mu mu' : Addr → Prop} (m : ∀ a, mu' a → mu a) : ∀ {vs : List V} {ss : List Sl} {T : List Addr}, Fly K H mu vs ss T → Fly K H mu' vs ss T
  | [], [], [], _ => trivial
  | v :: vs, .sh d :: ss, T, h => ⟨Dv.mono (fun _ _ _ q _ => q) (fun a _ z => m a z) _ _ h.1, Fly.mono m h.2⟩
  | v :: vs, .ow d :: ss, p :: T, ⟨⟨e, us, ds, h1, h2, h3⟩, h4⟩ => ⟨⟨e, us, ds, h1, h2, Dvs.mono (fun _ _ _ q _ => q) (fun a _ z => m a z) _ _ h3⟩, Fly.mono m h4⟩
  | v :: vs, .lk d :: ss, p :: T, ⟨⟨e, us, ds, h1, h2, h3⟩, h4⟩ => ⟨⟨e, us, ds, h1, h2, h3.mono (fun _ _ _ q _ => q) (fun a _ z => m a z)⟩, Fly.mono m h4⟩
  | [], [], _ :: _, h => h.elim
  | [], _ :: _, _, h => h.elim
  | _ :: _, [], _, h => h.elim
  | _ :: _, .ow _ :: _, [], h => h.elim
  | _ :: _, .lk _ :: _, [], h => h.elim
  | _ :: _, .un :: _, _, h => h.elim
  | _ :: _, .rf _ :: _, _, h => h.elim
  | _ :: _, .sc _ :: _, _, h => h.elim
end
section
variable {K : PySem.W.Frag} {mg : Str → Option Value} {W : WX}
def PsO (K : PySem.W.Frag) (mg : Str → Option Value) (W : WX) (w : Wd) (ε : Ev) (σ : L2.St) (H : Hp) (o : Option (Res (List Sl))) (Q : List V → Hp → Prop) : Prop :=
  match o with
  | none => False
  | some (.ok ss S') => ∀ io' T H' vs, Rp K ((w.at io').adT T) ε S' σ H' → Exx w H io' H' → (∀ p ∈ T, ¬ Kn H p ∧ ¬ w.z p) → T.Nodup → Fly K H' ((w.at io').adT T).mu vs ss T → Q vs H'
  | some (.ex e S') => ∀ io' H', Rp K (w.at io') ε S' σ H' → Exx w H io' H' → W (exV mg e) none σ H'
def tPs (K : PySem.W.Frag) (mg : Str → Option Value) (W : WX) (ps : List Pq) : TA := fun σ H Q =>
  ∃ w ε S, Rp K w ε S σ H ∧ PsO K mg W w ε σ H (pqs ps ε S) Q
theorem pqs_nil : pqs [] = fun _ => ret [] := rfl
theorem tPs_v {f : XE} {ps : List Pq} (σ : L2.St) (H : Hp) (Q : List V → Hp → Prop) (h : tPs K mg W (.v f :: ps) σ H Q) : tE K mg W f σ H fun x H1 => tPs K mg W ps σ H1 fun xs H2 => Q (x :: xs) H2 := by
  obtain ⟨w, ε, S, r, o⟩ := h
  refine ⟨w, ε, S, r, ?_⟩
  rw [pqs_v] at o
  cases e : f ε S with
  | none => rw [e] at o; exact o
  | some q =>
    rw [e] at o
    cases q with
    | ex x S1 => exact o
    | ok d S1 =>
      intro io1 H1 r1 x1 v dv
      refine ⟨w.at io1, ε, S1, r1, ?_⟩
      cases e2 : pqs ps ε S1 with
      | none => simp only [head1, e2] at o; exact o
      | some q2 =>
        simp only [head1, e2] at o
        cases q2 with
        | ex x S2 => exact fun io2 H2 r2 x2 => o io2 H2 r2 (x1.trans x2)
        | ok ss S2 =>
          intro io2 T H2 vs r2 x2 fr nd fl
          refine o io2 T H2 (v :: vs) r2 (x1.trans x2) (fun p hp => ⟨fun k => (fr p hp).1 (x1.dm p k), (fr p hp).2⟩) nd ⟨?_, fl⟩
          refine Dv.mono (fun a o n q k => x2.kw a o (fun z => n (.inl (.inl z))) q k) (fun a hk z => ?_) _ _ dv
          rcases adT_mu.mp z with z | z
          · exact x2.ext.mus a hk z
          · exact absurd hk (fr a z).1
theorem tPs_n {f : XL} {ps : List Pq} (σ : L2.St) (H : Hp) (Q : List V → Hp → Prop) (h : tPs K mg W (.n f :: ps) σ H Q) : tL K mg W f σ H fun x H1 => tPs K mg W ps σ H1 fun xs H2 => Q (x :: xs) H2 := by
  obtain ⟨w, ε, S, r, o⟩ := h
  refine ⟨w, ε, S, r, ?_⟩
  rw [pqs_n] at o
  cases e : f ε S with
  | none => rw [e] at o; exact o
  | some q =>
    rw [e] at o
    cases q with
    | ex x S1 => exact o
    | ok ds S1 =>
      intro io1 H1 r1 x1 p us hp hv
      have zp : ¬ (w.at io1).z p := fun z => (r1.zh p z).ne hp
      have rl := r1.lay hp (.lst us)
      refine ⟨(w.at io1).ad p, ε, S1, rl, ?_⟩
      cases e2 : pqs ps ε S1 with
      | none => simp only [head1, e2] at o; exact o
      | some q2 =>
        simp only [head1, e2] at o
        cases q2 with
        | ex x S2 => exact o.elim
        | ok ss S2 =>
          intro io2 T H2 vs r2 x2 fr nd fl
          have ew : (((w.at io1).ad p).at io2).adT T = (w.at io2).adT (p :: T) := adT_ad (w := w.at io2)
          rw [ew] at r2 fl
          have np : p ∉ T := fun z => (fr p z).2 (.inr rfl)
          have hp2 : H2 p = some (.lst us) := x2.kw _ _ (fun z => rl.zd p (.inr rfl) (.inl z)) upd_same nt_lst
          refine o io2 (p :: T) H2 (.ref p :: vs) r2 (x1.trans (x2.drop hp)) (fun b hb => ?_) (List.nodup_cons.mpr ⟨np, nd⟩) ⟨⟨rfl, us, ds, rfl, hp2, ?_⟩, fl⟩
          · rcases List.mem_cons.mp hb with rfl | hb
            · exact ⟨fun k => (Kn.non hp) (x1.dm _ k), zp⟩
            · exact ⟨fun k => (fr b hb).1 ((Grow.upd hp).kn (x1.dm b k)), fun z => (fr b hb).2 (.inl z)⟩
          · refine Dvs.mono (fun a o n q k => x2.kw a o (fun z => n (.inl (.inl z))) q k) (fun a hk z => ?_) _ _ (Dvs.layd hp hv (.lst us))
            rw [← adT_ad (w := w.at io2)] at z
            rcases adT_mu.mp z with z | z
            · exact x2.ext.mus a hk z
            · exact absurd hk (fr a z).1
theorem nt_dk {kvs : List (L2.Key × V)} : Nt (.dK kvs) := fun _ h => by cases h
theorem tPs_k {f : XK'} {ps : List Pq} (σ : L2.St) (H : Hp) (Q : List V → Hp → Prop) (h : tPs K mg W (.k f :: ps) σ H Q) : tK K mg W f σ H fun x H1 => tPs K mg W ps σ H1 fun xs H2 => Q (x :: xs) H2 := by
  obtain ⟨w, ε, S, r, o⟩ := h
  refine ⟨w, ε, S, r, ?_⟩
  rw [pqs_k] at o
  cases e : f ε S with
  | none => rw [e] at o; exact o
  | some q =>
    rw [e] at o
    cases q with
    | ex x S1 => exact o
    | ok ds S1 =>
      intro io1 H1 r1 x1 p us hp hv
      have zp : ¬ (w.at io1).z p := fun z => (r1.zh p z).ne hp
      have rl := r1.lay hp (.dK us) mo_k
      refine ⟨(w.at io1).ad p, ε, S1, rl, ?_⟩
      cases e2 : pqs ps ε S1 with
      | none => simp only [head1, e2] at o; exact o
      | some q2 =>
        simp only [head1, e2] at o
        cases q2 with
        | ex x S2 => exact o.elim
        | ok ss S2 =>
          intro io2 T H2 vs r2 x2 fr nd fl
          have ew : (((w.at io1).ad p).at io2).adT T = (w.at io2).adT (p :: T) := adT_ad (w := w.at io2)
          rw [ew] at r2 fl
          have np : p ∉ T := fun z => (fr p z).2 (.inr rfl)
          have hp2 : H2 p = some (.dK us) := x2.kw _ _ (fun z => rl.zd p (.inr rfl) (.inl z)) upd_same nt_dk
          refine o io2 (p :: T) H2 (.ref p :: vs) r2 (x1.trans (x2.drop hp)) (fun b hb => ?_) (List.nodup_cons.mpr ⟨np, nd⟩) ⟨⟨rfl, us, ds, rfl, hp2, ?_⟩, fl⟩
          · rcases List.mem_cons.mp hb with rfl | hb
            · exact ⟨fun k => (Kn.non hp) (x1.dm _ k), zp⟩
            · exact ⟨fun k => (fr b hb).1 ((Grow.upd hp).kn (x1.dm b k)), fun z => (fr b hb).2 (.inl z)⟩
          · refine (hv.mono (fun a o n q _ => Grow.upd hp a o q) (fun a ha z => ?_)).mono (fun a o n q k => x2.kw a o (fun z => n (.inl (.inl z))) q k) (fun a hk z => ?_) (mu := (((w.at io1).ad p)).mu)
            · rcases Wd.ad_mu.mp z with z | z
              · exact z
              · subst z; exact absurd ha (Kn.non hp)
            · rw [← adT_ad (w := w.at io2)] at z
              rcases adT_mu.mp z with z | z
              · exact x2.ext.mus a hk z
              · exact absurd hk (fr a z).1
theorem tPs_nil (σ : L2.St) (H : Hp) (Q : List V → Hp → Prop) (h : tPs K mg W [] σ H Q) : Q [] H := by
  obtain ⟨w, ε, S, r, o⟩ := h
  have o : ∀ io' T H' vs, Rp K ((w.at io').adT T) ε S σ H' → Exx w H io' H' → (∀ p ∈ T, ¬ Kn H p ∧ ¬ w.z p) → T.Nodup → Fly K H' ((w.at io').adT T).mu vs [] T → Q vs H' := o
  exact o w.io [] H [] (by rw [adT_nil]; exact r) (Exx.refl w H) (fun p hp => absurd hp List.not_mem_nil) List.nodup_nil trivial
/-- the names take them -/
theorem Rp.takes {w0 : Wd} {H0 : Hp} : ∀ {is : List Nat} {vs : List V} {ss : List Sl} {T : List Addr} {w : Wd} {ε : Ev} {S : List D} {σ : L2.St} {H : Hp}, is.length = ss.length → (∀ i ∈ is, i < ε.length) → Rp K (w.adT T) ε S σ H → (∀ p ∈ T, ¬ Kn H0 p ∧ ¬ w.z p) → T.Nodup →
    Fly K H (w.adT T).mu vs ss T → Ext w0 H0 w H → w.zt = w0.zt → ∃ w', w'.zt = w0.zt ∧ Rp K w' (setSl is ss ε) S (setVs is vs σ) H ∧ Ext w0 H0 w' H
  | [], [], [], [], w, ε, S, σ, H, _, _, r, _, _, _, x, z => ⟨w, z, by rw [adT_nil] at r; exact r, x⟩
  | i :: is, v :: vs, .sh d :: ss, T, w, ε, S, σ, H, hl, hi, r, fr, nd, fl, x, z => by
    have r2 := r.keepSh fl.1 i
    refine Rp.takes (is := is) (vs := vs) (ss := ss) (T := T) (w := w.clr [i]) (by simpa using hl) (fun j hj => by rw [List.length_set]; exact hi j (List.mem_cons_of_mem _ hj)) r2 fr nd (fl.2.mono fun a m => ?_) (x.trans (Ext.clr _ _ _)) z
    exact Wd.clr_mu (w := w.adT T) (l := [i]) m
  | i :: is, v :: vs, .ow d :: ss, p :: T, w, ε, S, σ, H, hl, hi, r, fr, nd, ⟨⟨e, us, ds, e2, h1, h2⟩, fl⟩, x, z => by
    subst e e2
    obtain ⟨np, nd2⟩ := List.nodup_cons.mp nd
    have hz : ¬ (w.adT T).z p := fun h => by
      rcases h with h | h
      · exact (fr p List.mem_cons_self).2 h
      · exact np h
    rw [adT_cons] at r h2 fl
    have r2 := Rp.ownZ r hz h1 h2 i (hi i List.mem_cons_self)
    refine Rp.takes (is := is) (vs := vs) (ss := ss) (T := T) (w := w.own i p) (by simpa using hl) (fun j hj => by rw [List.length_set]; exact hi j (List.mem_cons_of_mem _ hj)) r2 (fun b hb => fr b (List.mem_cons_of_mem _ hb)) nd2 (fl.mono fun a m => own_mu m) ⟨x.pre, x.zz, x.kp, fun a t => ?_, x.dm⟩ z
    rcases t with t | ⟨j, t⟩
    · exact x.nw a (.inl t)
    · have t : (if j = i then some p else w.om j) = some a := t
      split at t
      · cases t; exact .inr (fr _ List.mem_cons_self).1
      · exact x.nw a (.inr ⟨j, t⟩)
  | i :: is, v :: vs, .lk d :: ss, p :: T, w, ε, S, σ, H, hl, hi, r, fr, nd, ⟨⟨e, us, ds, e2, h1, h2⟩, fl⟩, x, z => by
    subst e e2
    obtain ⟨np, nd2⟩ := List.nodup_cons.mp nd
    have hz : ¬ (w.adT T).z p := fun h => by
      rcases h with h | h
      · exact (fr p List.mem_cons_self).2 h
      · exact np h
    rw [adT_cons] at r h2 fl
    have r2 := Rp.ownZd r hz h1 h2 (hi i List.mem_cons_self)
    refine Rp.takes (is := is) (vs := vs) (ss := ss) (T := T) (w := w.own i p) (by simpa using hl) (fun j hj => by rw [List.length_set]; exact hi j (List.mem_cons_of_mem _ hj)) r2 (fun b hb => fr b (List.mem_cons_of_mem _ hb)) nd2 (fl.mono fun a m => own_mu m) ⟨x.pre, x.zz, x.kp, fun a t => ?_, x.dm⟩ z
    rcases t with t | ⟨j, t⟩
    · exact x.nw a (.inl t)
    · have t : (if j = i then some p else w.om j) = some a := t
      split at t
      · cases t; exact .inr (fr _ List.mem_cons_self).1
      · exact x.nw a (.inr ⟨j, t⟩)
  | [], _ :: _, [], _, _, _, _, _, _, _, _, _, _, _, fl, _, _ => (show False from fl).elim
  | [], _ :: _, _ :: _, _, _, _, _, _, _, hl, _, _, _, _, _, _, _ => nomatch hl
  | [], [], [], _ :: _, _, _, _, _, _, _, _, _, _, _, fl, _, _ => fl.elim
  | [], [], _ :: _, _, _, _, _, _, _, hl, _, _, _, _, _, _, _ => nomatch hl
  | _ :: _, _, [], _, _, _, _, _, _, hl, _, _, _, _, _, _, _ => nomatch hl
  | _ :: _, [], _ :: _, _, _, _, _, _, _, _, _, _, _, _, fl, _, _ => fl.elim
  | _ :: _, _ :: _, .ow _ :: _, [], _, _, _, _, _, _, _, _, _, _, fl, _, _ => fl.elim
  | _ :: _, _ :: _, .lk _ :: _, [], _, _, _, _, _, _, _, _, _, _, fl, _, _ => fl.elim
  | _ :: _, _ :: _, .un :: _, _, _, _, _, _, _, _, _, _, _, _, fl, _, _ => fl.elim
  | _ :: _, _ :: _, .rf _ :: _, _, _, _, _, _, _, _, _, _, _, _, fl, _, _ => fl.elim
  | _ :: _, _ :: _, .sc _ :: _, _, _, _, _, _, _, _, _, _, _, _, fl, _, _ => fl.elim
end
section
variable {X : Cx} {W : WX} {pos : Pos}
/-- the pieces' expressions -/
inductive PqOk (X : Cx) (W : WX) : List Expr → List Pq → Prop
  | nil : PqOk X W [] []
  | v {e : Expr} {f : XE} {es : List Expr} {ps : List Pq} : DE X W e f → PqOk X W es ps → (starEach (e :: es) X.env = (false, eval e X.env) :: starEach es X.env) → PqOk X W (e :: es) (.v f :: ps)
  | n {e : Expr} {f : XL} {es : List Expr} {ps : List Pq} : DL X W e f → PqOk X W es ps → (starEach (e :: es) X.env = (false, eval e X.env) :: starEach es X.env) → PqOk X W (e :: es) (.n f :: ps)
  | k {e : Expr} {f : XK'} {es : List Expr} {ps : List Pq} : DKx X W e f → PqOk X W es ps → (starEach (e :: es) X.env = (false, eval e X.env) :: starEach es X.env) → PqOk X W (e :: es) (.k f :: ps)
theorem PqOk.pa {es : List Expr} {ps : List Pq} (h : PqOk X W es ps) : PA X es (tPs X.K X.mg W ps) := by
  induction h with
  | nil => exact pa_nil.weak fun σ H Q h => tPs_nil σ H Q h
  | v he _ hs ih => exact (pa_cons he.pe ih hs).weak fun σ H Q h => tPs_v σ H Q h
  | n he _ hs ih => exact (pa_cons he.pe ih hs).weak fun σ H Q h => tPs_n σ H Q h
  | k he _ hs ih => exact (pa_cons he.pe ih hs).weak fun σ H Q h => tPs_k σ H Q h
theorem pqs_len {ps : List Pq} : ∀ {ε : Ev} {S : List D} {ss : List Sl} {S' : List D}, pqs ps ε S = some (.ok ss S') → ss.length = ps.length := by
  induction ps with
  | nil => intro ε S ss S' h; cases h; rfl
  | cons p ps ih =>
    have t1 : ∀ {a o ss S'}, tail1 a o = some (.ok ss S') → ∃ rr, o = some (.ok rr S') ∧ ss = a :: rr := fun {a o ss S'} h => by
      unfold tail1 at h
      split at h <;> cases h
      exact ⟨_, rfl, rfl⟩
    have t2 : ∀ {a o ss S'}, tail2 a o = some (.ok ss S') → ∃ rr, o = some (.ok rr S') ∧ ss = a :: rr := fun {a o ss S'} h => by
      unfold tail2 at h
      split at h <;> cases h
      exact ⟨_, rfl, rfl⟩
    intro ε S ss S' h
    cases p with
    | v f =>
      rw [pqs_v] at h
      unfold head1 at h
      split at h
      · cases h
      · cases h
      · obtain ⟨rr, e1, rfl⟩ := t1 h
        rw [List.length_cons, List.length_cons, ih e1]
    | n f =>
      rw [pqs_n] at h
      unfold head1 at h
      split at h
      · cases h
      · cases h
      · obtain ⟨rr, e1, rfl⟩ := t2 h
        rw [List.length_cons, List.length_cons, ih e1]
    | k f =>
      rw [pqs_k] at h
      unfold head1 at h
      split at h
      · cases h
      · cases h
      · obtain ⟨rr, e1, rfl⟩ := t2 h
        rw [List.length_cons, List.length_cons, ih e1]
theorem fly_len {K : PySem.W.Frag} {H : Hp} {mu : Addr → Prop} : ∀ {vs : List V} {ss : List Sl} {T : List Addr}, Fly K H mu vs ss T → vs.length = ss.length
  | [], [], [], _ => rfl
  | v :: vs, .sh d :: ss, T, h => by rw [List.length_cons, List.length_cons, fly_len h.2]
  | v :: vs, .ow d :: ss, p :: T, h => by rw [List.length_cons, List.length_cons, fly_len h.2]
  | v :: vs, .lk d :: ss, p :: T, h => by rw [List.length_cons, List.length_cons, fly_len h.2]
  | [], [], _ :: _, h => h.elim
  | [], _ :: _, _, h => h.elim
  | _ :: _, [], _, h => h.elim
  | _ :: _, .ow _ :: _, [], h => h.elim
  | _ :: _, .lk _ :: _, [], h => h.elim
  | _ :: _, .un :: _, _, h => h.elim
  | _ :: _, .rf _ :: _, _, h => h.elim
  | _ :: _, .sc _ :: _, _, h => h.elim
/-- the pieces, then the names -/
theorem pars_read {is : List Nat} {ps : List Pq} {D0 : Ends} {σ : L2.St} {H : Hp} (hl : is.length = ps.length) (h : tS X.K X.mg W (sPars is ps) D0 σ H) :
    tPs X.K X.mg W ps σ H fun vs H1 => vs.length = ps.length ∧ ∀ H2, Grow H1 H2 → D0.nx (setVs is vs σ) H2 := by
  obtain ⟨w, ε, S, r, o⟩ := h
  refine ⟨w, ε, S, r, ?_⟩
  unfold sPars at o
  split at o
  · rename_i hi
    have hi : ∀ i ∈ is, i < ε.length := fun i h => of_decide_eq_true (List.all_eq_true.mp hi i h)
    unfold PsO
    unfold Tn.bnd at o
    cases e : pqs ps ε S with
    | none => rw [e] at o; exact o
    | some q =>
      rw [e] at o
      cases q with
      | ex x S1 => exact fun io' H' r1 x1 => o (w.at io') ε σ H' rfl r1 x1.ext
      | ok ss S1 =>
        intro io' T H' vs r1 x1 fr nd fl
        have ls := pqs_len e
        refine ⟨by rw [fly_len fl, ls], fun H2 g => ?_⟩
        obtain ⟨w', z, r2, x2⟩ := Rp.takes (w0 := w) (H0 := H) (w := w.at io') (by rw [ls]; exact hl) hi r1 fr nd fl x1.ext rfl
        exact o w' _ H2 z (r2.grow g) (x2.trans g.ext)
  · exact o.elim
section
variable {i j l : Nat} {x y z : Str} {a b c : Expr} {px py pz pt pt2 : Pos} {kt k2 : Nat} {p q u : Pq}
theorem ds_parq2 (hc : X.calm = true) (hN : X.N.Nodup) (hi : X.N[i]? = some x) (hj : X.N[j]? = some y) (hij : i ≠ j) (hx : X.env.scope.names.lookup x = some .local) (hy : X.env.scope.names.lookup y = some .local)
    (h : PqOk X W [a, b] [p, q]) (hw : swappedStores [.Tuple [.Name x px, .Name y py] kt pt] (.Tuple [a, b] k2 pt2) X.env = pure (some [x, y]))
    (hs : swapsWithSole [.Tuple [.Name x px, .Name y py] kt pt] (.Tuple [a, b] k2 pt2) pos.line X.env = pure false := by rfl) :
    DS X W (.Assign [.Tuple [.Name x px, .Name y py] kt pt] (.Tuple [a, b] k2 pt2) pos) (sPars [i, j] [p, q]) := by
  refine ⟨(ps_par hc hN hi hj hij hx hy h.pa hw hs).weak fun D0 σ H hh => ?_⟩
  obtain ⟨w, ε, S, r, o⟩ := pars_read rfl hh
  refine ⟨w, ε, S, r, ?_⟩
  unfold PsO at o ⊢
  split at o
  · exact o
  · intro io' T H' vs r1 x1 fr nd fl
    obtain ⟨h1, h2⟩ := o io' T H' vs r1 x1 fr nd fl
    match vs, h1 with
    | [v1, v2], _ => exact ⟨v1, v2, rfl, h2 H' (Grow.refl H')⟩
  · exact o
theorem ds_parq3 (hc : X.calm = true) (hN : X.N.Nodup) (hi : X.N[i]? = some x) (hj : X.N[j]? = some y) (hl : X.N[l]? = some z) (hij : i ≠ j) (hil : i ≠ l) (hjl : j ≠ l)
    (hx : X.env.scope.names.lookup x = some .local) (hy : X.env.scope.names.lookup y = some .local) (hz : X.env.scope.names.lookup z = some .local) (h : PqOk X W [a, b, c] [p, q, u])
    (hw : swappedStores [.Tuple [.Name x px, .Name y py, .Name z pz] kt pt] (.Tuple [a, b, c] k2 pt2) X.env = pure (some [x, y, z]))
    (hs : swapsWithSole [.Tuple [.Name x px, .Name y py, .Name z pz] kt pt] (.Tuple [a, b, c] k2 pt2) pos.line X.env = pure false := by rfl) :
    DS X W (.Assign [.Tuple [.Name x px, .Name y py, .Name z pz] kt pt] (.Tuple [a, b, c] k2 pt2) pos) (sPars [i, j, l] [p, q, u]) := by
  refine ⟨(ps_par3 hc hN hi hj hl hij hil hjl hx hy hz h.pa hw hs).weak fun D0 σ H hh => ?_⟩
  obtain ⟨w, ε, S, r, o⟩ := pars_read rfl hh
  refine ⟨w, ε, S, r, ?_⟩
  unfold PsO at o ⊢
  split at o
  · exact o
  · intro io' T H' vs r1 x1 fr nd fl
    obtain ⟨h1, h2⟩ := o io' T H' vs r1 x1 fr nd fl
    match vs, h1 with
    | [v1, v2, v3], _ => exact ⟨v1, v2, v3, rfl, h2 H' (Grow.refl H')⟩
  · exact o
end
/-- the names of a tuple -/
inductive NmsOk (X : Cx) : List Expr → List Nat → Prop
  | nil : NmsOk X [] []
  | cons {x : Str} {i : Nat} {p : Pos} {es : List Expr} {is : List Nat} : X.N[i]? = some x → Loc X.env.scope x → (X.fn x = true ∨ X.env.scope.names.lookup x = some .local) → NmsOk X es is →
      ((assignEach (.Name x p :: es) X.env).map (·.2) = assign (.Name x p) X.env :: (assignEach es X.env).map (·.2)) → NmsOk X (.Name x p :: es) (i :: is)
def gSets : List Nat → List V → L2.St → Hp → (L2.St → Hp → Prop) → Prop := fun is vs σ H Q => vs.length = is.length ∧ Q (setVs is vs σ) H
theorem NmsOk.pgs (hN : X.N.Nodup) {es : List Expr} {is : List Nat} (h : NmsOk X es is) : PGs X es (gSets is) := by
  induction h with
  | nil =>
    refine pgs_nil.weak fun v σ H Q ⟨h1, h2⟩ => ?_
    have e : v = [] := List.length_eq_zero_iff.mp h1
    subst e
    exact ⟨rfl, h2⟩
  | cons hi hx hf _ hs ih =>
    refine (pgs_cons (pg_name hN hi hx hf) ih hs).weak fun v σ H Q ⟨h1, h2⟩ => ?_
    cases v with
    | nil => cases h1
    | cons v r => exact ⟨v, r, rfl, by simpa using h1, h2⟩
theorem NmsOk.len {es : List Expr} {is : List Nat} (h : NmsOk X es is) : es.length = is.length := by
  induction h with
  | nil => rfl
  | cons _ _ _ _ _ ih => rw [List.length_cons, List.length_cons, ih]
/-- names = pieces, by a tuple -/
theorem ds_parT {tg es : List Expr} {is : List Nat} {ps : List Pq} {kt k2 : Nat} {pt pt2 : Pos} (hc : X.calm = true) (hN : X.N.Nodup) (hg : NmsOk X tg is) (h : PqOk X W es ps) (hl : is.length = ps.length) (h16 : ps.length ≤ 16)
    (hn : (assignEach tg X.env).length = is.length := by rfl) (hst : (assignEach tg X.env).findIdx? (·.1) = none := by rfl)
    (hs : swapsWithSole [.Tuple tg kt pt] (.Tuple es k2 pt2) pos.line X.env = pure false := by rfl) (hw : swappedStores [.Tuple tg kt pt] (.Tuple es k2 pt2) X.env = pure none := by rfl)
    (h1 : (assignEach [.Tuple tg kt pt] X.env).map (·.2) = [assign (.Tuple tg kt pt) X.env] := by rfl) :
    DS X W (.Assign [.Tuple tg kt pt] (.Tuple es k2 pt2) pos) (sPars is ps) := by
  refine ⟨(ps_asg (pe_tup h.pa) (pg_tup hc (hg.pgs hN) hn hst) hs hw h1).weak fun D0 σ H hh => ?_⟩
  obtain ⟨w, ε, S, r, o⟩ := pars_read hl hh
  refine ⟨w, ε, S, r, ?_⟩
  unfold PsO at o ⊢
  split at o
  · exact o
  · intro io' T H' vs r1 x1 fr nd fl
    obtain ⟨l1, l2⟩ := o io' T H' vs r1 x1 fr nd fl
    refine ⟨by rw [l1]; exact Nat.le_trans h16 (Nat.le_trans (by decide) big_le), fun p hp => ?_⟩
    refine ⟨p, vs, rfl, .of upd_same, by rw [l1, hl], by rw [l1, hl], l2 _ (Grow.upd hp)⟩
  · exact o
end
end
/-! the rules of plain reasoning -/
section
variable {S : List D} {ε : Ev} {E : Ex → List D → Prop} {QS : List Sl → List D → Prop} {QR : SR → List D → Prop} {is : List Nat} {ps : List Pq} {e : XE} {l : XL} {f : XK'} {i : Nat} {v : Sl} {vs : List Sl}
theorem wp_pqs0 : Wp (pqs [] ε S) QS E ↔ QS [] S := Iff.rfl
theorem wp_tail1 {a : Sl} {o : Option (Res (List Sl))} : Wp (tail1 a o) QS E ↔ Wp o (fun vs S' => QS (a :: vs) S') E := by
  cases o with
  | none => exact Iff.rfl
  | some r => cases r <;> exact Iff.rfl
theorem wp_tail2 {a : Sl} {o : Option (Res (List Sl))} : Wp (tail2 a o) QS E ↔ Wp o (fun vs S' => QS (a :: vs) S') fun _ _ => False := by
  cases o with
  | none => exact Iff.rfl
  | some r => cases r <;> exact Iff.rfl
theorem wp_head1 {α : Type} {o : Option (Res α)} {k : α → List D → Option (Res (List Sl))} : Wp (head1 o k) QS E ↔ Wp o (fun d S' => Wp (k d S') QS E) E := by
  cases o with
  | none => exact Iff.rfl
  | some r => cases r <;> exact Iff.rfl
theorem wp_pqsV : Wp (pqs (.v e :: ps) ε S) QS E ↔ Wp (e ε S) (fun x S' => Wp (pqs ps ε S') (fun vs S2 => QS (.sh x :: vs) S2) E) E := by
  rw [pqs_v, wp_head1]; exact wp_iff fun _ _ => wp_tail1
theorem wp_pqsN : Wp (pqs (.n l :: ps) ε S) QS E ↔ Wp (l ε S) (fun x S' => Wp (pqs ps ε S') (fun vs S2 => QS (.ow (.list x) :: vs) S2) fun _ _ => False) E := by
  rw [pqs_n, wp_head1]; exact wp_iff fun _ _ => wp_tail2
theorem wp_pqsK : Wp (pqs (.k f :: ps) ε S) QS E ↔ Wp (f ε S) (fun x S' => Wp (pqs ps ε S') (fun vs S2 => QS (.lk (.dict x) :: vs) S2) fun _ _ => False) E := by
  rw [pqs_k, wp_head1]; exact wp_iff fun _ _ => wp_tail2
theorem setSl_cons : setSl (i :: is) (v :: vs) ε = setSl is vs (ε.set i v) := rfl
theorem setSl_nil : setSl [] [] ε = ε := rfl
end
end Tn
end

section
set_option Elab.async false
set_option linter.all false
set_option maxRecDepth 100000
set_option maxHeartbeats 1000000
/-! defs that call themselves: so often at most -/
namespace Tn
open PySem PySem.Spec PyProof.Rows L2
variable [TB]
def noF : Fn := fun _ _ => none
theorem fnok_no {P : Program} {w : World} {K : PySem.W.Frag} {mg : Str → Option Value} {base : Heap} {k : Nat} {f : Addr} {fd : FuncData} {ps : List Str} : FnOk P w K mg base (L2.CX P w) k f fd ps (spD K mg noF) :=
  ⟨fun _ _ _ _ ⟨_, _, _, _, _, h⟩ => h.elim, fun _ _ _ _ _ _ _ _ _ _ _ _ _ ⟨_, _, _, _, _, h⟩ => h.elim⟩
end Tn
end

section
set_option Elab.async false
set_option linter.all false
set_option maxRecDepth 100000
set_option maxHeartbeats 2000000
/-! defs that show data (repr): called where no repr is under way -/
namespace Tn
open PySem PySem.Spec PyProof.Rows L2
structure FnOkG (P : Program) (w : World) (K : PySem.W.Frag) (mg : Str → Option Value) (base : Heap) (CX : CXT) (k : Nat) (f : Addr) (fd : FuncData) (ps : List Str) (sp : Sp) : Prop where
  len : ∀ vs H Q E, sp vs H Q E → vs.length = ps.length
  run : ∀ (A : Around) (outer : List Env) (s : Shared) (H : Hp) (args : Args) (us : List Value) (vs : List V) (Q : VK) (E : XK), A.guards = some [] → Room k A → Env0 P w K mg base A outer s H → BindsTo s fd args (ps.zip us) → Vals vs us → sp vs H Q E →
    codeAny (model P w) A (.call (.ref f) args) (CR CX outer P w H s Q E) s
section
variable [TB]
theorem fn_DG {P : Program} {w : World} {K : PySem.W.Frag} {mg : Str → Option Value} {base : Heap} {k : Nat} {x : Str} {st : Stmt} {f : Addr} {fd : FuncData} {N ps : List Str} {np ns : Nat} {fb : XS} (F : Fun K x x st f fd) (S : FnScope N ps (defScope st)) (hnp : ps.length = np) (hns : N.length = ns)
    (hbody : ∀ (cdv : Value) (A : Around) (outer : List Env) (s : Shared) (H : Hp) (E : XK), A.guards = some [] → Room k (A.deeper (envOfC x (defScope st) s.heap.objs.size f cdv)) →
      DSs (cxOf (L2.CX P w) P w K mg base N x (defScope st) f cdv A outer s H E) (fun cls d _ H => E cls d H) (defBody st) fb) : FnOkG P w K mg base (L2.CX P w) (k + 1) f fd ps (spD K mg (mkFn np ns fb)) := by
  have len : ∀ vs H Q E, spD K mg (mkFn np ns fb) vs H Q E → vs.length = ps.length := fun vs H Q E ⟨w, args, S, h2, r, h⟩ => by
    unfold mkFn at h
    split at h
    · rename_i hc
      have := r.le
      rw [Bool.and_eq_true, decide_eq_true_eq] at hc
      rw [List.length_map, hc.1] at this
      omega
    · exact h.elim
  refine ⟨len, fun A outer s H args us vs Q E hG room env bt vals hsp => ?_⟩
  obtain ⟨oc3, od3, kV, doc, pm, an, cdv, ct, osl3, rfl, lk, hcd⟩ := F.ex
  have body := (hbody cdv A outer s H E hG (room.deeper _)).pss
  have lvs := len _ _ _ _ hsp
  obtain ⟨wd, as, S0, hom, rp, hres⟩ := hsp
  unfold mkFn at hres
  split at hres
  case isFalse => exact hres.elim
  rename_i hcond
  have st0 : L2.start N vs = vs.map some ++ List.replicate (ns - np) none := by
    unfold L2.start
    rw [lvs, hns, hnp]
  have rp2 := rp.more (ns - np)
  rw [← st0] at rp2
  have pin : K.In s.heap := env.mod.kin.keeps fun b o e => (env.bs b o e).1
  refine codeAny_call_function room.depth (pin _ _ lk) rfl S.co S.gen rfl (PySem.W.codeRec_of pin hcd) (bt _ _ _ _ ?_)
  have kinds : ∀ y ∈ ps.zip us, (defScope st).names.lookup y.1 = some .local ∨ ((defScope st).names.lookup y.1 = some .cell ∧ ((cellsFrom (s.heap.objs.size + 1) (defScope st).names []).lookup y.1).isSome = true) := fun y hy =>
    (S.par y.1 (List.of_mem_zip (a := y.1) (b := y.2) hy).1).imp_right fun q => ⟨q, PySem.W.cellsFrom_some _ _ _ (.inl q)⟩
  refine wpAny_newFunctionEnv_cells S.kind kinds fun env1 he s1 ic => ?_
  subst he
  have lim : s.heap.NoLimit := env.mod.nolimit.keeps fun b o e => (env.bs b o e).1
  refine ⟨lim.keeps ic.toInCall.keep, codeAny_func (wpAny_mono (body.run [] s1 (start N vs) H _ (inv_start S room.hd env lvs vals ic) ⟨wd, _, S0, rp2, res_body (K := K) (mg := mg) hom rp2 hres⟩) ?_ fun _ _ z => z)⟩
  intro fl s' done
  cases fl
  · obtain ⟨σ1, H1, J, q⟩ := done
    exact ⟨V.non, H1, J.os, J.bare, J.base, J.hok, rfl, q⟩
  · exact done.choose_spec.choose_spec.2.elim
  · exact done.choose_spec.choose_spec.2.elim
  · obtain ⟨v, σ1, H1, J, r, q⟩ := done
    exact ⟨v, H1, J.os, J.bare, J.base, J.hok, r, q⟩
/-- a def of the module -/
structure FnDG (P : Program) (w : World) (K : PySem.W.Frag) (mg : Str → Option Value) (base : Heap) (k : Nat) (x : Str) (ps : List Str) (F : Fn) : Prop where
  ex : ∃ f fd, mg x = some (.ref f) ∧ PySem.W.keepIn K (.ref f) = true ∧ L2.Binds K fd ps [] ∧ FnOkG P w K mg base (L2.CX P w) k f fd ps (spD K mg F)
theorem FnDG.up {P : Program} {w : World} {K : PySem.W.Frag} {mg : Str → Option Value} {base : Heap} {j k : Nat} {x : Str} {ps : List Str} {F : Fn} (h : FnDG P w K mg base j x ps F) (hk : j ≤ k) : FnDG P w K mg base k x ps F := by
  obtain ⟨f, fd, h1, h2, h3, h4⟩ := h
  exact ⟨f, fd, h1, h2, h3, ⟨h4.len, fun A outer s H args us vs Q E hG hr => h4.run A outer s H args us vs Q E hG (hr.mono hk)⟩⟩
theorem fnd_ofG {P : Program} {w : World} {K : PySem.W.Frag} {mg : Str → Option Value} {base : Heap} {k : Nat} {x y : Str} {ps : List Str} {F : Fn} {st : Stmt} {f : Addr} {fd : FuncData} (h : Fun K x x st f fd) (hm : mg y = some (.ref f)) (hb : L2.Binds K fd ps []) (hF : FnOkG P w K mg base (L2.CX P w) k f fd ps (spD K mg F)) : FnDG P w K mg base k y ps F :=
  ⟨⟨f, fd, hm, h.kp, hb, hF⟩⟩
end
section
variable {X : Cx} {e : Expr} {es : List Expr} {x : Str} {ps : List Str} {k : Nat} {p pos : Pos} {f : Addr} {fd : FuncData} {sp : Sp} {t : TA} {CX : CXT} {E : L2.St → XK}
theorem run_fnG {pins : List (Addr × Obj)} {σ : L2.St} {H : Hp} {s : Shared} {Q : VK} {us : List Value} {vs : List V} (F : FnOkG X.prog X.w X.K X.mg X.base CX k f fd ps sp) (hG : X.A.guards = some []) (hr : Room k X.A) (hb : Binds X.K fd ps []) (hx : PassesAt CX X σ (E σ))
    (I : Inv X pins σ H s) (r : Vals vs us) (h : sp vs H Q (E σ)) : wpAny (model X.prog X.w) X.A (call (.ref f) us) (EP X pins σ Q) X.xe s := by
  have hl : us.length = ps.length := by rw [← r.length]; exact F.len _ _ _ _ h
  have b := hb s us I.kIn (by rw [List.append_nil]; exact hl)
  rw [List.append_nil] at b
  refine wpAny_call (codeAny_mono (F.run X.A X.stack s H ⟨us, []⟩ us vs Q (E σ) hG hr I.env0 b r h) fun r s' hq => ?_)
  cases r with
  | error e => exact hx pins H s e s' I hq
  | ok fl =>
    cases fl with
    | ret u => exact I.after hq
    | next => exact False.elim hq
    | brk => exact False.elim hq
    | cont => exact False.elim hq
theorem pe_callG (F : FnOkG X.prog X.w X.K X.mg X.base CX k f fd ps sp) (hG : X.A.guards = some []) (hr : Room k X.A) (hg : Gl X x) (hm : X.mg x = some (.ref f)) (hk : PySem.W.keepIn X.K (.ref f) = true) (hb : Binds X.K fd ps []) (hx : ∀ σ, PassesAt CX X σ (E σ))
    (ha : PA X (e :: es) t) (hdb : (x == ("__debug__" : Str)) = false := by decide) (he : starEach (e :: es) X.env = (false, eval e X.env) :: starEach es X.env := by rfl) (hpl : (backTo pos (starEach es X.env)).any (·.1) = false := by rfl) :
    PE X (.Call (.Name x p) (e :: es) [] pos) (tCallS sp E t) := by
  refine ⟨fun pins s σ H Q I h => ?_⟩
  refine wpAny_Call_Name_kw (ld_glob I hg hm ?_ hdb)
  refine PySem.W.callWith_K (h₀ := X.base) I.ok.mod.kin hk (thn (ha.run pos pins s σ H _ I h) fun us s1 ⟨vs, H1, I1, r, q⟩ => ⟨I1.kIn, ?_⟩) he hpl
  exact run_fnG F hG hr hb (hx σ) I1 r q
end
section
variable [TB] {X : Cx} {W : WX} {e : Expr} {es : List Expr} {fs : XAs} {F : Fn} {x : Str} {ps : List Str} {k : Nat} {p pos : Pos}
theorem de_callG (tk : Takes X W) (hG : X.A.guards = some []) (hr : Room k X.A) (hF : FnDG X.prog X.w X.K X.mg X.base k x ps F) (hg : Gl X x) (ha : DAs X W (e :: es) fs) (hdb : (x == ("__debug__" : Str)) = false := by decide)
    (hs : starEach (e :: es) X.env = (false, eval e X.env) :: starEach es X.env := by rfl) (hpl : (backTo pos (starEach es X.env)).any (·.1) = false := by rfl) : DE X W (.Call (.Name x p) (e :: es) [] pos) (xCall F fs) := by
  obtain ⟨f, fd, h1, h2, h3, h4⟩ := hF
  refine ⟨(pe_callG (E := fun σ => WE W σ) h4 hG hr hg h1 h2 h3 (fun σ => passAt tk σ) ha.pa hdb hs hpl).weak fun σ H Q ⟨w, ε, S, r, o⟩ => call_read r o (fun _ _ h => xc_bad h) fun s io' S' H' r' o' => ?_⟩
  cases s with
  | sh d => exact fun v dv => (o'.ret r') v dv
  | rf n => exact (show False from o').elim
  | ow d =>
    cases d with
    | list ds => exact (show False from o').elim
    | _ => exact True.intro
  | lk d =>
    cases d with
    | tuple ds => exact fun a us ha na dv => (o'.ret r') _ (.tup ha na dv)
    | _ => exact True.intro
  | _ => exact True.intro
end
theorem runG_of {P : Program} {w : World} {K : PySem.W.Frag} {mg : Str → Option Value} {base : Heap} {CX : CXT} {k : Nat} {f : Addr} {fd : FuncData} {ps : List Str} {sp : Sp} (h : FnOkG P w K mg base CX k f fd ps sp) : RunG P w K mg base CX k f fd ps sp :=
  fun s H args us vs Q E room env bt vals hsp => h.run callerA [] s H args us vs Q E rfl room env bt vals hsp
end Tn
end

section
set_option Elab.async false
set_option linter.all false
set_option maxRecDepth 100000
set_option maxHeartbeats 2000000
/-! lambdas whose bodies show data: the frames' guards are known -/
namespace Tn
open PySem PySem.Spec PyProof.Rows L2 LamX
section
variable {X : Cx} {pins : List (Addr × Obj)} {σ : L2.St} {H HZ : Hp} {s s1 : Shared}
theorem pe_actG {CXg : CXT} {Eg : XK} {Ng : List Str} {qg : Str} {sg : Scope} {g f c' : Addr} {cdg pm ctv : Value} {params : Arguments} {body : Expr} {scope : Scope} {k i : Nat} {a : Str} {pn : List (Addr × Obj)} {xe : Value → Shared → Prop} {W : WX} {E : XK} {tb : TE} {p1 p2 : Pos}
    (hG : X.A.guards = some []) (I : Inv X pins σ H s) (L : LamS X.env.scope scope) (hf : s.heap.get? f = some (PySem.W.kla_obj "<lambda>" (X.env.qual ++ "<lambda>") params body scope (cloFrom X.env.cells scope.names []) pm c' ctv)) (hfn : H f = none) (hfr : f ∉ frs X.stack)
    (hbind : bindArgs (PySem.W.kla_fn "<lambda>" (X.env.qual ++ "<lambda>") params body scope (cloFrom X.env.cells scope.names []) pm (.ref c') ctv) ⟨[], []⟩ = pure [])
    (tk : Takes ((cxOf CXg X.prog X.w X.K X.mg X.base Ng qg sg g cdg X.A X.stack s H Eg).tr pn xe) W) (hW : ∀ cls d σ' H', E cls d H' → W cls d σ' H') (hr : Room (k + 1) (X.A.deeper (envOfC qg sg s.heap.objs.size g cdg)))
    (hbody : ∀ (A : Around) (outer : List Env) (s : Shared) (H : Hp), A.guards = some [] → Room k (A.deeper (lamEnv X scope s.heap.objs.size f c')) → PE (lamCx X A outer s H E scope f c') body tb)
    (hN : Ng[i]? = some a) (hv : Vis sg a) (hd : (a == ("__debug__" : Str)) = false) (hcd : (a == ("__classdict__" : Str)) = false) :
    PE ((cxOf CXg X.prog X.w X.K X.mg X.base Ng qg sg g cdg X.A X.stack s H Eg).tr pn xe) (.Call (.Name a p1) [] [] p2)
      (fun σZ HZ Q => σZ[i]? = some (some (.ref f)) ∧ HZ c' = some (CodeO c' (X.env.qual ++ "<lambda>")) ∧ tb σ HZ Q) := by
  refine ⟨fun pinsZ sZ σZ HZ Q IZ ⟨q1, q2, q3⟩ => ?_⟩
  refine wpAny_Call_Name_kw (thn ((pe_var (pos := p1) (i := i) hN hv hd hcd).run pinsZ sZ σZ HZ (fun v H1 => v = .ref f ∧ H1 = HZ) IZ ⟨.ref f, q1, rfl, rfl⟩) fun u s1 ⟨v, H1, I1, r1, e1⟩ => ?_)
  obtain ⟨rfl, rfl⟩ := e1
  obtain rfl : u = Value.ref f := r1
  have fo := I1.base.keep f _ hf hfn hfr (fun z => nomatch (show f ∈ ([] : List Addr) from z))
  refine PySem.W.callWith_F0 ⟨_, _, _, _, fo⟩ ?_
  have un : L2.Un (frs X.stack) [] H H1 s.heap s1.heap := I1.base
  obtain ⟨⟨oc, vs, t, z1, z2, z3⟩, _, _⟩ := I1.hok c' _ q2
  have rc : codeAny (model X.prog X.w) (X.A.deeper (envOfC qg sg s.heap.objs.size g cdg)) (.call (.ref f) ⟨[], []⟩) (CR (L2.CX X.prog X.w) (envOfC qg sg s.heap.objs.size g cdg :: X.stack) X.prog X.w H1 s1 Q E) s1 := by
    refine PySem.W.kla_callFunE hr.depth fo rfl L.co L.gen rfl ⟨c', oc, vs, t, rfl, z1, z2, z3⟩ ?_
    rw [hbind]
    refine wpAny_pure (wpAny_newFunctionEnv (fun y hy => (L.own y hy).2) (fun y hy => absurd hy (by simp)) (fun h₁ hns hsb => ⟨I1.nolimit.fresh _ hsb, ?_⟩) L.kind)
    have kp : ∀ b o, s1.heap.get? b = some o → h₁.get? b = some o := fun b o e => hsb.extBut b o (Nat.ne_of_lt (Heap.lt_size e)) (Heap.get?_push_of_some _ e)
    have J := lam_start2 (X := X) (A := X.A.deeper (envOfC qg sg s.heap.objs.size g cdg)) (outer := envOfC qg sg s.heap.objs.size g cdg :: X.stack) (E := E) (f := f) (c' := c') (tk := s1.toks + ([] : List (Str × Value)).length) I L I1.env0 hr.hd un hns kp
    refine PySem.W.kla_codeExpr (wpAny_mono ((hbody (X.A.deeper (envOfC qg sg s.heap.objs.size g cdg)) _ s1 H1 hG (hr.deeper _)).run [] _ _ H1 Q J q3) (fun v s' hq => ?_) fun e s' hq => hq)
    obtain ⟨w', H', J', rv, q⟩ := hq
    exact ⟨w', H', J'.os, J'.bare, J'.base, J'.hok, rv, q⟩
  refine wpAny_call (codeAny_mono rc fun r s' hq => ?_)
  cases r with
  | error e => exact passes_call tk hW pinsZ σZ H1 s1 e s' I1 hq
  | ok fl =>
    cases fl with
      | ret u => exact I1.after hq
      | next => exact False.elim hq
      | brk => exact False.elim hq
      | cont => exact False.elim hq
theorem pe_lamcallG {T : List (Addr × Str)} {TT : (XK → Hp → VK → Prop) → Hp → VK → Prop} {x a : Str} {g c P : Addr} {k : Nat} {pg : Arguments} {bg : List Stmt} {sg : Scope} {dV kV doc pm cdv ct oc : Value} {an od : Option Addr} {osl : Array (Option Value)} {Ng : List Str}
    {params : Arguments} {body : Expr} {scope : Scope} {t : XK → TE} {p lpos pos : Pos} (hGu : X.A.guards = some []) (hg : Gl X x) (hm : X.mg x = some (.ref g)) (hk : PySem.W.keepIn X.K (.ref g) = true)
    (lk : X.K.lookup g = some ⟨oc, od, .func (PySem.W.fnOf x x pg bg sg dV kV doc pm an cdv ct), osl⟩) (hcg : PySem.W.codeIn X.K cdv x = true) (hb : L2.Binds X.K (PySem.W.fnOf x x pg bg sg dV kV doc pm an cdv ct) [a] []) (Sg : FnScope Ng [a] sg) (hNg : Ng[0]? = some a) (hva : Vis sg a)
    (hG : GivesTo X Ng x sg g cdv bg a (X.env.qual ++ "<lambda>") TT)
    (TB : TabB X.base X.mg c P) (hcode : X.env.code = .ref c) (hmT : (P, X.env.qual ++ "<lambda>") ∈ T) (hu : ∀ p ∈ T, p.1 = P → p.2 = X.env.qual ++ "<lambda>") (hr : Room (k + 2) X.A) (L : LamS X.env.scope scope) (hdef : defaultsOf params X.env = ([], []))
    (hbind : ∀ (q : Str) (cl : List (Str × Addr)) (pm cv ctv : Value), bindArgs (PySem.W.kla_fn "<lambda>" q params body scope cl pm cv ctv) ⟨[], []⟩ = pure [])
    (hbody : ∀ (A : Around) (outer : List Env) (s : Shared) (H : Hp) (E : XK) (f c' : Addr), A.guards = some [] → Room k (A.deeper (lamEnv X scope s.heap.objs.size f c')) → PE (lamCx X A outer s H E scope f c') body (t E))
    (hdb : (x == ("__debug__" : Str)) = false) (hd : (a == ("__debug__" : Str)) = false) (hcd : (a == ("__classdict__" : Str)) = false) :
    PE X (.Call (.Name x p) [.Lambda params body scope lpos] [] pos) (tLam T TT t) := by
  refine ⟨fun pins s σ H Q I ⟨hT, h⟩ => ?_⟩
  refine wpAny_Call_Name_kw (ld_glob I hg hm ?_ hdb)
  refine PySem.W.callWith_K (h₀ := X.base) I.ok.mod.kin hk ?_ (by rfl) (by rfl)
  show wpAny _ _ (spliced ((false, eval (.Lambda params body scope lpos) X.env) :: backTo pos (starEach [] X.env))) _ _ s
  refine Calls.spliced_cons (lam_make2 I TB hcode hmT hu hT hdef (L.has I.ok) fun f c' pm' ctv H1 s' I1 eN T1 hf hfn hfr hco => ?_)
  refine Calls.spliced_nil ⟨I1.kIn, wpAny_call (codeAny_mono (R := CR C8.CX0 X.stack X.prog X.w H1 s' Q C8.E0) ?_ fun r s2 hq => ?_)⟩
  · refine run_ofS (N := Ng) (ps := [a]) (us := [.ref f]) (vs := [.ref f]) lk hcg Sg hr I1.env0 (hb s' [.ref f] I1.kIn rfl) (.cons rfl .nil) rfl fun hr' => ?_
    obtain ⟨t', y1, y2⟩ := hG f c' s' H1 Q (fun E H' Q' => t E σ H' Q') (fun W pn xe E p1 p2 tk hW => pe_actG (i := 0) hGu I1 L hf hfn hfr (hbind _ _ _ _ _) tk hW hr' (fun A outer s H hGA hr2 => hbody A outer s H E f c' hGA hr2) hNg hva hd hcd) hco (h H1 eN T1)
    exact ⟨t', y1.nox, y2⟩
  · cases r with
    | error e => exact (show False from hq).elim
    | ok fl =>
      cases fl with
      | ret u => exact I1.after hq
      | next => exact False.elim hq
      | brk => exact False.elim hq
      | cont => exact False.elim hq
end
theorem de_lamG [TB] {X : Cx} {W : WX} {C : Ex → Addr} {xs : List Ex} {k : Nat} {x a : Str} {hs : List (Ex × D)} {ok : D} {params : Arguments} {body : Expr} {scope : Scope} {fe : XE} {p lpos pos : Pos} (hGu : X.A.guards = some []) (M : ExM X.K X.mg C xs) (hH : HlpD X.K X.mg C x a hs ok) (hg : Gl X x) (hL : LamAt X) (hr : Room (k + 2) X.A)
    (L : LamX.LamS X.env.scope scope) (hdef : defaultsOf params X.env = ([], []))
    (hbind : ∀ (q : Str) (cl : List (Str × Addr)) (pm cv ctv : Value), bindArgs (PySem.W.kla_fn "<lambda>" q params body scope cl pm cv ctv) ⟨[], []⟩ = pure [])
    (hbody : ∀ (A : Around) (outer : List Env) (s : Shared) (H : Hp) (E : XK) (f c' : Addr), A.guards = some [] → Room k (A.deeper (LamX.lamEnv X scope s.heap.objs.size f c')) → DE (LamX.lamCx X A outer s H E scope f c') (fun cls d _ H => E cls d H) body fe)
    (hdb : (x == ("__debug__" : Str)) = false := by decide) (hd : (a == ("__debug__" : Str)) = false := by decide) (hcd : (a == ("__classdict__" : Str)) = false := by decide) (hi : Hin hs xs := by rfl) :
    DE X W (.Call (.Name x p) [.Lambda params body scope lpos] [] pos) (xLam (refusal ok hs) fe) := by
  obtain ⟨g, pg, bg, sg, dV, kV, doc, pm, cdv, ct, oc, an, od, osl, Ng, h1, h2, h3, h4, h5, h6, h7, h8, h9⟩ := hH.ex
  obtain ⟨c, P, hc, hT, hm, hu⟩ := hL
  exact ⟨(pe_lamcallG (T := TB.tb) (TT := TTh C hs ok) (t := fun E => tE X.K X.mg (fun cls d _ H => E cls d H) fe) hGu hg h1 h2 h3 h4 h5 h6 h7 h8 (h9 X _ rfl rfl) hT hc hm hu hr L hdef hbind (fun A outer s H E f c' hGA hr2 => (hbody A outer s H E f c' hGA hr2).pe) hdb hd hcd).weak (lam_read M hi hH.dok hH.dhs)⟩
/-! min of three whole numbers -/
def opMin3 (x y z : D) : Option D := match x, y, z with
  | .int a, .int b, .int c => some (.int (if b < a then (if c < b then c else b) else (if c < a then c else a)))
  | _, _, _ => none
def x3 (g : D → D → D → Option D) (a b c : XE) : XE := fun ε => bnd (a ε) fun x => bnd (b ε) fun y => bnd (c ε) fun z => lft (g x y z)
theorem call_min3 {X : Cx} (hc : X.calm = true) : CallR X (.builtin "min") (fun xs H Q => ∃ a b c, xs = [.int a, .int b, .int c] ∧ Q (.int (if b < a then (if c < b then c else b) else (if c < a then c else a))) H) := by
  intro pins s σ H xs us Q I r h
  obtain ⟨a, b, c, rfl, q⟩ := h
  have z : ∃ u1 u2 u3, us = [u1, u2, u3] ∧ L2.RelV (.int a) u1 ∧ L2.RelV (.int b) u2 ∧ L2.RelV (.int c) u3 := by
    cases r with
    | cons r1 rr =>
      cases rr with
      | cons r2 rr =>
        cases rr with
        | cons r3 rr =>
          cases rr
          exact ⟨_, _, _, rfl, r1, r2, r3⟩
  obtain ⟨u1, u2, u3, rfl, ⟨t1, rfl⟩, ⟨t2, rfl⟩, ⟨t3, rfl⟩⟩ := z
  refine min_three_ints (I.ok.hd hc) fun h' tk k => ⟨_, H, I.kept k, ?_, q⟩
  by_cases h1 : b < a
  · by_cases h2 : c < b
    · rw [if_pos h1, if_pos h2, if_pos h1, if_pos h2]; exact ⟨_, rfl⟩
    · rw [if_pos h1, if_neg h2, if_pos h1, if_neg h2]; exact ⟨_, rfl⟩
  · by_cases h2 : c < a
    · rw [if_neg h1, if_pos h2, if_neg h1, if_pos h2]; exact ⟨_, rfl⟩
    · rw [if_neg h1, if_neg h2, if_neg h1, if_neg h2]; exact ⟨_, rfl⟩
theorem de_min3 [TB] {X : Cx} {W : WX} {a b c : Expr} {fa fb fc : XE} {p pos : Pos} (hc : X.calm = true) (hg : Gl X "min") (hm : X.mg "min" = none) (ha : DE X W a fa) (hb : DE X W b fb) (hd : DE X W c fc)
    (he : starEach [a, b, c] X.env = (false, eval a X.env) :: starEach [b, c] X.env := by rfl) (he2 : starEach [b, c] X.env = (false, eval b X.env) :: starEach [c] X.env := by rfl) (he3 : starEach [c] X.env = (false, eval c X.env) :: starEach [] X.env := by rfl) : DE X W (.Call (.Name "min" p) [a, b, c] [] pos) (x3 opMin3 fa fb fc) := by
  refine ⟨(pe_callB (call_min3 hc) hg hm (by decide +kernel) (pa_cons ha.pe (pa_cons hb.pe (pa_cons hd.pe pa_nil he3) he2) he) (by decide) (by decide) he (by rw [he2, he3]; rfl)).weak fun σ H Q ⟨w, ε, S, rp, o⟩ => ?_⟩
  refine ⟨w, ε, S, rp, (OutM.bnd o).imp fun d1 io1 S1 H1 r1 x1 o1 x hx => ⟨w.at io1, ε, S1, r1, (OutM.bnd o1).imp fun d2 io2 S2 H2 r2 x2 o2 y hy => ⟨(w.at io1).at io2, ε, S2, r2, (OutM.bnd o2).imp fun d3 io3 S3 H3 r3 x3 o3 z hz => ?_⟩⟩⟩
  obtain ⟨d, e, k⟩ := o3.lft r3
  unfold opMin3 at e
  split at e
  · cases e
    cases hx; cases hy; cases hz
    exact ⟨_, _, _, rfl, k H3 (Grow.refl H3) _ (.int _)⟩
  · cases e
end Tn
end

section
set_option Elab.async false
set_option linter.all false
set_option maxRecDepth 100000
set_option maxHeartbeats 1000000
/-! l[:0:-1] of a list -/
namespace Tn
open PySem PySem.Spec PyProof.Rows L2
def opRev0 (x : D) : Option D := match x with
  | .list xs => some (.list (xs.drop 1).reverse)
  | _ => none
theorem pick_0 (xs : List Value) : slicePick xs.toArray none (some 0) (some (-1)) = (xs.drop 1).reverse.toArray := by
  unfold slicePick
  have b : sliceBounds none (some 0) (some (-1)) xs.toArray.size = ((xs.length : Int) - 1, max (-1) (min 0 ((xs.length : Int) - 1)), -1) := by simp [sliceBounds]
  rw [b]
  show ((sliceRange ((xs.length : Int) - 1) (max (-1) (min 0 ((xs.length : Int) - 1))) (-1)).filterMap (xs.toArray[·]?)).toArray = _
  cases xs with
  | nil => rfl
  | cons x r =>
    have e1 : max (-1 : Int) (min 0 (((x :: r).length : Int) - 1)) = 0 := by rw [List.length_cons]; omega
    have e2 : ((x :: r).length : Int) - 1 = (r.length : Int) := by rw [List.length_cons]; omega
    rw [e1, e2]
    have e3 : sliceRange (r.length : Int) 0 (-1) = ((List.range r.length).map fun k => r.length - 1 - k).map (· + 1) := by
      unfold sliceRange
      have h1 : ¬ ((-1 : Int) > 0) := by decide
      rw [List.map_map]
      by_cases h : (r.length : Int) > 0
      · have e : ((r.length : Int) - 0 - -1 - 1) / (- -1) = (r.length : Int) := by
          rw [show (- -1 : Int) = 1 by decide, Int.ediv_one]; omega
        simp only [h1, if_false, h, if_true, e, Int.toNat_natCast]
        refine List.map_congr_left fun k hk => ?_
        have := List.mem_range.mp hk
        show ((r.length : Int) + -1 * (k : Int)).toNat = r.length - 1 - k + 1
        omega
      · have e : r.length = 0 := by omega
        rw [e]; rfl
    rw [e3, PySem.W.krv_range, List.filterMap_map, List.filterMap_reverse]
    have e4 : (List.range r.length).filterMap ((fun x_1 => (x :: r).toArray[x_1]?) ∘ fun x => x + 1) = r := by
      have := PySem.W.krv_all r.toArray
      rw [List.size_toArray] at this
      refine Eq.trans ?_ this
      refine fm_congr fun k _ => ?_
      show (x :: r).toArray[k + 1]? = r.toArray[k]?
      rw [List.getElem?_toArray, List.getElem?_toArray, List.getElem?_cons_succ]
    rw [e4]; rfl
section
variable {X : Cx} {e : Expr} {te : TE} {pos p2 p3 p4 p5 : Pos} {j j2 : Nat}
theorem pe_back0 (he : PE X e te) : PE X (.Subscript e (.Slice none (some (.Constant (.int 0) j2 p5)) (some (.UnaryOp .USub (.Constant (.int 1) j p4) p3)) p2) pos) (fun σ H Q => te σ H fun x H1 => ∃ a xs, x = .ref a ∧ SqL X.K H1 a xs ∧ ∀ q, H1 q = none → Q (.ref q) (upd H1 q (.lst (xs.drop 1).reverse))) := by
  refine ⟨fun pins s σ H Q I h => ?_⟩
  refine Subscript_ (thn (he.run pins s σ H _ I h) fun v s1 ⟨x, H1, I1, r1, q1⟩ => ?_)
  refine wpAny_Slice ?_
  rw [evalPart_none]
  refine wpAny_pure ?_
  have hp0 : PO X (some (.Constant (.int 0) j2 p5)) (tPart (tC (.int 0))) := po_some pe_int
  refine thn (hp0.run pins s1 σ H1 (fun o H2 => o = some 0 ∧ H2 = H1) I1 ⟨0, rfl, rfl, rfl⟩) fun vu s2 ⟨l0, H2, I2, pu0, ev0, eH0⟩ => ?_
  subst ev0 eH0
  have hp : PO X (some (.UnaryOp .USub (.Constant (.int 1) j p4) p3)) (tPart (tUn _ (tC (.int 1)))) := po_some (pe_un un_neg pe_int)
  refine thn (hp.run pins s2 σ H2 (fun o H3 => o = some (-1) ∧ H3 = H2) I2 ⟨1, rfl, -1, rfl, rfl, rfl⟩) fun vs s3 ⟨l, H3, I3, pu, ev, eH⟩ => ?_
  subst ev eH
  obtain ⟨a, xs, rfl, hx, q⟩ := q1
  cases r1
  have I4 : Inv X pins σ H3 { s3 with heap := s3.heap.push { cls := .type "slice", data := .fields #[.none, vu, vs] } } := I3.kept (t' := s3.toks) fun b ob q => Heap.get?_push_of_some _ q
  obtain ⟨its, r, ht, hz⟩ := I4.list hx
  have hlen : its.toArray.size = xs.length := by rw [List.size_toArray]; exact r.length.symm
  show wpAny (model X.prog X.w) X.A (subscriptTail e _ (.ref a) (.ref s3.heap.objs.size)) (EP X pins σ Q) X.xe { s3 with heap := s3.heap.push { cls := .type "slice", data := .fields #[.none, vu, vs] } }
  refine tail_any (ops := [.ref a, .ref s3.heap.objs.size]) ht.isList.typeIs slot_list_getitem.lookup ?_ (by with_unfolding_all rfl)
  refine wpAny_getItem_list_slice ht.isList (Heap.IsSliceOf.new ..) .none pu0 pu (by simp) ?_ (by rw [hlen]; exact hz)
  rw [pick_0]
  refine ⟨.ref _, _, I4.laid (t' := s3.toks) (o := .lst (xs.drop 1).reverse) (fun b ob q => Heap.get?_push_of_some _ q) (Nat.le_refl _) ?_, rfl, q _ (I4.hok.fresh (Nat.le_refl _))⟩
  have rd : Vals (xs.drop 1) (its.drop 1) := by
    cases r with
    | nil => exact .nil
    | cons r1 r2 => exact r2
  exact ⟨by rw [List.length_reverse, List.length_drop]; omega, _, 0, vals_back rd, Heap.get?_push_size _ rfl⟩
end
variable [TB]
theorem dvs_drop {K : PySem.W.Frag} {H : Hp} {mu : Addr → Prop} {xs : List V} {ds : List D} (h : Dvs K H mu xs ds) : Dvs K H mu (xs.drop 1) (ds.drop 1) := by
  cases h with
  | nil => exact .nil
  | cons h1 h2 => exact h2
theorem de_rev0 {X : Cx} {W : WX} {a : Expr} {fa : XE} {pos p2 p3 p4 p5 : Pos} {j j2 : Nat} (ha : DE X W a fa) : DE X W (.Subscript a (.Slice none (some (.Constant (.int 0) j2 p5)) (some (.UnaryOp .USub (.Constant (.int 1) j p4) p3)) p2) pos) (x1 opRev0 fa) := by
  refine ⟨(pe_back0 ha.pe).weak fun σ H Q ⟨w, ε, S, r, o⟩ => ?_⟩
  refine ⟨w, ε, S, r, (OutM.bnd o).imp fun d io1 S1 H1 r1 x1 o1 x hx => ?_⟩
  obtain ⟨d2, e, k⟩ := o1.lft r1
  unfold opRev0 at e
  split at e
  · rename_i ds
    cases e
    obtain ⟨p, xs, rfl, hp, hk⟩ := Rv.lst (.inl hx)
    exact ⟨p, xs, rfl, hp, fun q hq => k _ (Grow.upd hq) _ (new_lst (fun a z => r1.muh z) hq (dvs_drop hk).rev)⟩
  · cases e
end Tn
namespace Tn
open PySem PySem.Spec PyProof.Rows L2
/-! t[-2::-1] of a tuple -/
def opRevM (x : D) : Option D := match x with
  | .tuple xs => some (.tuple (xs.take (xs.length - 1)).reverse)
  | _ => none
section
variable {prog : Program} {w : World} {A : Around} {E : Value → Shared → Prop} {s : Shared}
theorem applied_m2 {sl : Addr} {u v : Tok} {n : Nat} {Q : Int × Int × Nat → Shared → Prop} (hs : s.heap.IsSliceOf sl (.int (-2) v) .none (.int (-1) u)) (h : Q (max ((n : Int) - 2) (-1), -1, n - 1) s) : wpAny (model prog w) A (Builtin.Slice.sliceApplied (.ref sl) (pure (n : Int))) Q E s := by
  obtain ⟨os, hos, hcs, hds⟩ := id hs
  unfold Builtin.Slice.sliceApplied Builtin.Slice.sliceFields
  refine wpAny_bind (wpAny_bind (wpAny_field hos hds (x := .int (-2) v) rfl (wpAny_bind (wpAny_field hos hds (x := .none) rfl (wpAny_bind (wpAny_field hos hds (x := .int (-1) u) rfl (wpAny_pure ?_)))))))
  refine wpAny_bind (slicePart_int ?_)
  show wpAny _ _ (if ((-1 : Int) == 0) = true then _ else _) _ _ s
  rw [if_neg (by decide)]
  refine wpAny_bind (slicePart_int (wpAny_bind (slicePart_none (wpAny_bind (wpAny_pure ?_)))))
  show wpAny _ _ (match Builtin.Slice.sliceAdjust (some (-2)) none (-1) (n : Int) with | (lo, hi) => pure (lo, (-1 : Int), Builtin.Slice.slicePlaces lo hi (-1))) _ _ s
  have e : Builtin.Slice.sliceAdjust (some (-2)) none (-1) (n : Int) = (max ((n : Int) - 2) (-1), -1) := by
    unfold Builtin.Slice.sliceAdjust
    simp
    omega
  rw [e]
  have e2 : Builtin.Slice.slicePlaces (max ((n : Int) - 2) (-1)) (-1) (-1) = n - 1 := by
    unfold Builtin.Slice.slicePlaces
    simp
    split <;> omega
  show wpAny _ _ (pure (max ((n : Int) - 2) (-1), (-1 : Int), Builtin.Slice.slicePlaces (max ((n : Int) - 2) (-1)) (-1) (-1))) _ _ s
  rw [e2]
  exact wpAny_pure h
theorem pick_m2 (xs : Array Value) : ((List.range (xs.size - 1)).filterMap fun (m : Nat) => xs[(max ((xs.size : Int) - 2) (-1) + (m : Int) * (-1)).toNat]?).toArray = (xs.toList.take (xs.size - 1)).reverse.toArray := by
  have e : ((List.range (xs.size - 1)).filterMap fun (m : Nat) => xs[(max ((xs.size : Int) - 2) (-1) + (m : Int) * (-1)).toNat]?) = (List.range (xs.size - 1)).filterMap fun (m : Nat) => (xs.toList.take (xs.size - 1)).toArray[xs.size - 1 - 1 - m]? := by
    refine fm_congr fun m hm => ?_
    have hm := List.mem_range.mp hm
    have : (max ((xs.size : Int) - 2) (-1) + (m : Int) * (-1)).toNat = xs.size - 1 - 1 - m := by omega
    have e1 : (xs.toList.take (xs.size - 1)).toArray[xs.size - 1 - 1 - m]? = xs[xs.size - 1 - 1 - m]? := by
      rw [List.getElem?_toArray, List.getElem?_take, if_pos (by omega), Array.getElem?_toList]
    rw [this, e1]
  rw [e]
  have sz : (xs.toList.take (xs.size - 1)).toArray.size = xs.size - 1 := by rw [List.size_toArray, List.length_take, Array.length_toList]; omega
  have := pick_back (xs.toList.take (xs.size - 1)).toArray
  rw [sz] at this
  refine Eq.trans ?_ this
  congr 1
  refine fm_congr fun m hm => ?_
  have hm := List.mem_range.mp hm
  have : (((xs.size - 1 : Nat) : Int) - 1 + (m : Int) * (-1)).toNat = xs.size - 1 - 1 - m := by omega
  rw [this]
theorem getItem_tuple_m2 {t sl : Addr} {items : Array Value} {u v : Tok} {Q : Value → Shared → Prop} (ht : IsTup s.heap t items) (hs : s.heap.IsSliceOf sl (.int (-2) v) .none (.int (-1) u))
    (h : Q (.ref s.heap.objs.size) { s with heap := s.heap.push { cls := .type "tuple", data := .seq (items.toList.take (items.size - 1)).reverse.toArray } }) (hsz : items.size ≤ sizeLine) : wpAny (model prog w) A (getItem (.ref t) (.ref sl)) Q E s := by
  have htake : sizeOk (.seq (items.toList.take (items.size - 1)).reverse.toArray) := by
    show (items.toList.take (items.size - 1)).reverse.toArray.size ≤ sizeLine
    rw [List.size_toArray, List.length_reverse, List.length_take, Array.length_toList]
    omega
  obtain ⟨os, hos, hcs, hds⟩ := id hs
  have hTs : s.TypeIs (.ref sl) "slice" := ⟨os, hos, hcs⟩
  unfold getItem
  try with_reducible refine wpAny_holding ?_
  first | refine wpAny_bind (wpAny_pure ?_) | skip
  refine wpAny_bind (wpAny_sequenceKey ht.typeIs (by decide) ?_)
  refine wpAny_bind (wpAny_callSpecial?_slot (name := Str.ofString "__getitem__") ht.typeIs PyProof.Rows.slot_tuple_getitem
    (wpAny_call_entry PyProof.Rows.slot_tuple_getitem ht.typeIs entry_tuple_getitem ?_ (args_tuple_getitem _ _)))
  show wpAny _ _ (Builtin.Tuple.tupleItemsOf (.ref t) >>= _) _ _ s
  refine wpAny_bind (tupleItemsOf_ ht ?_)
  refine wpAny_bind (wpAny_typeOf hTs ?_)
  rw [if_pos (by decide)]
  refine wpAny_bind (applied_m2 hs ?_)
  show wpAny _ _ (if ((max ((items.size : Int) - 2) (-1)) == 0 && (-1 : Int) == 1 && items.size - 1 == items.size) = true then _ else _) _ _ s
  rw [if_neg (by simp), pick_m2]
  first
    | exact wpAny_bind (m := Builtin.Tuple.tupleExact _) (wpAny_newObj_type (wpAny_pure ⟨_, rfl, wpAny_pure h⟩) htake)
    | exact wpAny_bind (m := Builtin.Tuple.tupleExact _) (wpAny_newObj_type (wpAny_bind (wpAny_pure (wpAny_pure ⟨_, rfl, wpAny_pure h⟩))) htake)
    | exact wpAny_bind (wpAny_bind (m := Builtin.Tuple.tupleExact _) (wpAny_newObj_type (wpAny_pure (wpAny_pure ⟨_, rfl, wpAny_pure h⟩)) htake))
    | exact wpAny_bind (wpAny_bind (m := Builtin.Tuple.tupleExact _) (wpAny_newObj_type (wpAny_pure ⟨_, rfl, wpAny_pure h⟩) htake))
end
theorem vals_take {xs : List V} {us : List Value} (r : Vals xs us) (n : Nat) : Vals (xs.take n) (us.take n) := by
  induction r generalizing n with
  | nil => cases n <;> exact .nil
  | cons r1 r2 ih =>
    cases n with
    | zero => exact .nil
    | succ n => exact .cons r1 (ih n)
section
variable {X : Cx} {e : Expr} {te : TE} {pos p2 p3 p4 p5 p6 : Pos} {j j2 : Nat}
theorem pe_backM (he : PE X e te) : PE X (.Subscript e (.Slice (some (.UnaryOp .USub (.Constant (.int 2) j2 p6) p5)) none (some (.UnaryOp .USub (.Constant (.int 1) j p4) p3)) p2) pos) (fun σ H Q => te σ H fun x H1 => ∃ a xs, x = .ref a ∧ SqT X.K H1 a xs ∧ ∀ q, H1 q = none → Q (.ref q) (upd H1 q (.tup (xs.take (xs.length - 1)).reverse))) := by
  refine ⟨fun pins s σ H Q I h => ?_⟩
  refine Subscript_ (thn (he.run pins s σ H _ I h) fun v s1 ⟨x, H1, I1, r1, q1⟩ => ?_)
  refine wpAny_Slice ?_
  have hp0 : PO X (some (.UnaryOp .USub (.Constant (.int 2) j2 p6) p5)) (tPart (tUn _ (tC (.int 2)))) := po_some (pe_un un_neg pe_int)
  refine thn (hp0.run pins s1 σ H1 (fun o H2 => o = some (-2) ∧ H2 = H1) I1 ⟨2, rfl, -2, rfl, rfl, rfl⟩) fun vl s2 ⟨l0, H2, I2, pl0, ev0, eH0⟩ => ?_
  subst ev0 eH0
  refine wpAny_pure ?_
  have hp : PO X (some (.UnaryOp .USub (.Constant (.int 1) j p4) p3)) (tPart (tUn _ (tC (.int 1)))) := po_some (pe_un un_neg pe_int)
  refine thn (hp.run pins s2 σ H2 (fun o H3 => o = some (-1) ∧ H3 = H2) I2 ⟨1, rfl, -1, rfl, rfl, rfl⟩) fun vs s3 ⟨l, H3, I3, pu, ev, eH⟩ => ?_
  subst ev eH
  obtain ⟨a, xs, rfl, hx, q⟩ := q1
  cases r1
  cases pu with
  | int i t =>
    cases pl0 with
    | int i2 t2 =>
      have I4 : Inv X pins σ H3 { s3 with heap := s3.heap.push { cls := .type "slice", data := .fields #[.int (-2) t2, .none, .int (-1) t] } } := I3.kept (t' := s3.toks) fun b ob q => Heap.get?_push_of_some _ q
      obtain ⟨its, r, ht, hz⟩ := I4.tuple hx
      have hlen : its.toArray.size = xs.length := by rw [List.size_toArray]; exact r.length.symm
      show wpAny (model X.prog X.w) X.A (subscriptTail e _ (.ref a) (.ref s3.heap.objs.size)) (EP X pins σ Q) X.xe { s3 with heap := s3.heap.push { cls := .type "slice", data := .fields #[.int (-2) t2, .none, .int (-1) t] } }
      refine tail_any (ops := [.ref a, .ref s3.heap.objs.size]) ht.typeIs PyProof.Rows.slot_tuple_getitem.lookup ?_ (by with_unfolding_all rfl)
      refine getItem_tuple_m2 ht (Heap.IsSliceOf.new ..) ?_ (by rw [hlen]; exact hz)
      rw [hlen]
      refine ⟨.ref _, _, I4.laid (t' := s3.toks) (o := .tup (xs.take (xs.length - 1)).reverse) (fun b ob q => Heap.get?_push_of_some _ q) (Nat.le_refl _) ?_, rfl, q _ (I4.hok.fresh (Nat.le_refl _))⟩
      exact ⟨by rw [List.length_reverse, List.length_take]; omega, _, vals_back (vals_take r _), IsTup.new _ _⟩
end
variable [TB]
theorem dvs_take {K : PySem.W.Frag} {H : Hp} {mu : Addr → Prop} : ∀ {xs : List V} {ds : List D} (_ : Dvs K H mu xs ds) (n : Nat), Dvs K H mu (xs.take n) (ds.take n)
  | _, _, .nil, n => by cases n <;> exact .nil
  | _, _, .cons h1 h2, 0 => .nil
  | _, _, .cons h1 h2, n + 1 => .cons h1 (dvs_take h2 n)
theorem dvs_len {K : PySem.W.Frag} {H : Hp} {mu : Addr → Prop} : ∀ {xs : List V} {ds : List D} (_ : Dvs K H mu xs ds), xs.length = ds.length
  | _, _, .nil => rfl
  | _, _, .cons _ h2 => by rw [List.length_cons, List.length_cons, dvs_len h2]
theorem de_revM {X : Cx} {W : WX} {a : Expr} {fa : XE} {pos p2 p3 p4 p5 p6 : Pos} {j j2 : Nat} (ha : DE X W a fa) : DE X W (.Subscript a (.Slice (some (.UnaryOp .USub (.Constant (.int 2) j2 p6) p5)) none (some (.UnaryOp .USub (.Constant (.int 1) j p4) p3)) p2) pos) (x1 opRevM fa) := by
  refine ⟨(pe_backM ha.pe).weak fun σ H Q ⟨w, ε, S, r, o⟩ => ?_⟩
  refine ⟨w, ε, S, r, (OutM.bnd o).imp fun d io1 S1 H1 r1 x1 o1 x hx => ?_⟩
  obtain ⟨d2, e, k⟩ := o1.lft r1
  unfold opRevM at e
  split at e
  · rename_i ds
    cases e
    obtain ⟨p, xs, rfl, hp, hk⟩ := Rv.tup (.inl hx)
    refine ⟨p, xs, rfl, hp, fun q hq => k _ (Grow.upd hq) _ ?_⟩
    rw [dvs_len hk]
    exact new_tup (fun a z => r1.muh z) hq (dvs_take hk _).rev
  · cases e
end Tn
end

section
set_option Elab.async false
set_option linter.all false
set_option maxRecDepth 100000
set_option maxHeartbeats 2000000
/-! sum(lists, []) -/
namespace Tn
open PySem PySem.Spec PyProof.Rows L2
open Sem (wp)
/-- all behind one another -/
def catA (acc : Array Value) : List (Array Value) → Array Value
  | [] => acc
  | x :: r => catA (acc ++ x) r
theorem catA_size : ∀ (l : List (Array Value)) (acc : Array Value), acc.size ≤ (catA acc l).size
  | [], _ => Nat.le_refl _
  | x :: r, acc => by
    have := catA_size r (acc ++ x)
    rw [Array.size_append] at this
    show acc.size ≤ (catA (acc ++ x) r).size
    omega
section
variable {prog : Program} {w : World} {A : Around} {R : Result → Shared → Prop} {I l S : Addr}
theorem sum_loopL (hh : A.in1.handled = none) {items : Array Value} (hSI : S ≠ I) (hSl : S ≠ l) (hIl : I ≠ l) :
    ∀ (r : List (Array Value)) (i : Nat) (s : Shared) (T : Addr) (tot : Array Value) (m c : Nat), i + r.length = items.size → s.heap.IsListIter I l i → s.heap.IsList l items → s.heap.get? S = some { cls := .type "list", dict := none, data := .seq #[.ref T] c, slots := #[] } →
    IsL s.heap T tot m → T ≠ S → T ≠ I → (∀ j x, r[j]? = some x → ∃ b m', items[i + j]? = some (.ref b) ∧ IsL s.heap b x m' ∧ b ≠ S ∧ b ≠ I) → (catA tot r).size ≤ sizeLine →
    (∀ h' T' m', IsL h' T' (catA tot r) m' → (r ≠ [] → s.heap.objs.size ≤ T') → (r = [] → T' = T) → (∀ b o, b ≠ I → b ≠ S → s.heap.get? b = some o → h'.get? b = some o) → R (.ok (.ret (.ref T'))) { s with heap := h' }) →
    codeAny (model prog w) A (.builtin "sum.loop" ⟨[.ref I, .ref S, rawInt 2, rawInt 0], []⟩) R s := by
  intro r
  induction r with
  | nil =>
    intro i s T tot m c hn hit hl hS hT hTS hTI hel hsz hR
    refine codeAny_builtin F.entry_sum_loop ?_
    rw [Around.under_plainId F.plain_sum_loop _]
    show wpAny _ A.in1 (seqItems? (.ref S) >>= _) _ _ s
    refine wpAny_bind (wpAny_seqItems hS rfl ?_)
    show wpAny _ A.in1 (tryCatch (pyNext (.ref I)) _ >>= _) _ _ s
    refine wpAny_bind (wpAny_tryCatch (wpAny_pyNext_list_end hh hit hl (by simp at hn; simp; omega) fun h' he => ?_))
    exact wpAny_pure (hR h' T m (he T _ hTI hT) (fun e => absurd rfl e) (fun _ => rfl) fun b o hb _ e => he b o hb e)
  | cons x r ih =>
    intro i s T tot m c hn hit hl hS hT hTS hTI hel hsz hR
    obtain ⟨b, mb, hb, hbL, hbS, hbI⟩ := hel 0 x rfl
    refine codeAny_builtin F.entry_sum_loop ?_
    rw [Around.under_plainId F.plain_sum_loop _]
    show wpAny _ A.in1 (seqItems? (.ref S) >>= _) _ _ s
    refine wpAny_bind (wpAny_seqItems hS rfl ?_)
    show wpAny _ A.in1 (tryCatch (pyNext (.ref I)) _ >>= _) _ _ s
    refine wpAny_bind (wpAny_tryCatch (wpAny_pyNext_list_item hit hl hb fun h' hit' hs => ?_))
    have keep : ∀ b o, b ≠ I → s.heap.get? b = some o → h'.get? b = some o := fun b o hb e => hs.extBut b o hb e
    have hT' : IsL h' T tot m := keep T _ hTI hT
    have hb' : IsL h' b x mb := keep b _ hbI hbL
    have hS' := keep S _ hSI hS
    have sz : tot.size + x.size ≤ sizeLine := by
      have := catA_size r (tot ++ x)
      rw [Array.size_append] at this
      exact Nat.le_trans this hsz
    show wpAny _ A.in1 ((holding [Value.ref b] (binaryOp .Add (.ref T) (.ref b))).attempt >>= _) _ _ _
    refine wpAny_bind (wpAny_attempt (wpAny_holding (PySem.P.add_list hT' hb' ?_ sz)))
    show wpAny _ A.in1 (updateSeq S (fun _ => #[.ref h'.objs.size]) >>= _) _ _ _
    have hS1 : (h'.push { cls := .type "list", data := .seq (tot ++ x) }).get? S = some { cls := .type "list", dict := none, data := .seq #[.ref T] c, slots := #[] } := Heap.get?_push_of_some _ hS'
    have hN : (h'.push { cls := .type "list", data := .seq (tot ++ x) }).get? h'.objs.size = some { cls := .type "list", data := .seq (tot ++ x) } := Heap.get?_push_size _ rfl
    have lS : S < h'.objs.size := Heap.lt_size hS'
    have lI : I < h'.objs.size := by obtain ⟨_, q, _⟩ := hit'; exact Heap.lt_size q
    refine wpAny_bind (wpAny_updateSeq hS1 rfl ?_)
    have hS₂ := Heap.get?_update_self (Obj.mapSeq fun _ => #[Value.ref h'.objs.size]) hS1 rfl
    refine wpAny_bind (wpAny_letGo ?_)
    have keep2 : ∀ (b : Addr) (o : Obj), b ≠ I → b ≠ S → s.heap.get? b = some o → (((h'.push { cls := .type "list", data := .seq (tot ++ x) }).update S (Obj.mapSeq fun _ => #[Value.ref h'.objs.size])).update S (Obj.mapSeq fun _ => #[Value.ref h'.objs.size])).get? b = some o := fun b o hb hbs e =>
      (Heap.get?_update_other _ _ (Ne.symm hbs)).trans ((Heap.get?_update_other _ _ (Ne.symm hbs)).trans (Heap.get?_push_of_some _ (keep b o hb e)))
    have hsz1 : h'.objs.size = s.heap.objs.size := hs.1
    refine wpAny_bind (wpAny_updateSeq hS₂ rfl (wpAny_pure ⟨plainId_quiet F.plain_sum_loop _, ih (i + 1) _ h'.objs.size (tot ++ x) 0 c (by rw [List.length_cons] at hn; omega) ?_ ?_ (Heap.get?_update_self _ hS₂ rfl) ?_ (Nat.ne_of_gt lS) (Nat.ne_of_gt lI) (fun j y hj => ?_) hsz fun h'' T' m' q1 q2 q4 q3 => ?_⟩))
    · exact hit'.at fun o e => (Heap.get?_update_other _ _ hSI).trans ((Heap.get?_update_other _ _ hSI).trans (Heap.get?_push_of_some _ e))
    · obtain ⟨o, e, z⟩ := hl
      exact ⟨o, (Heap.get?_update_other _ _ hSl).trans ((Heap.get?_update_other _ _ hSl).trans (Heap.get?_push_of_some _ (keep l o (Ne.symm hIl) e))), z⟩
    · exact (Heap.get?_update_other _ _ (Nat.ne_of_lt lS)).trans ((Heap.get?_update_other _ _ (Nat.ne_of_lt lS)).trans hN)
    · obtain ⟨b2, m2, e1, e2, e3, e4⟩ := hel (j + 1) y hj
      refine ⟨b2, m2, by rw [show i + 1 + j = i + (j + 1) by omega]; exact e1, keep2 b2 _ e4 e3 e2, e3, e4⟩
    · refine hR h'' T' m' q1 (fun _ => ?_) (fun e => nomatch e) fun b o hb hbs e => q3 b o hb hbs (keep2 b o hb hbs e)
      cases r with
      | nil =>
        rw [q4 rfl, hsz1]; exact Nat.le_refl _
      | cons y r' =>
        refine Nat.le_trans ?_ (q2 (by simp))
        show s.heap.objs.size ≤ (((h'.push { cls := .type "list", data := .seq (tot ++ x) }).update S _).update S _).objs.size
        rw [(Heap.SameBut.update ..).1, (Heap.SameBut.update ..).1, Heap.size_push]
        omega
end
section
variable {prog : Program} {w : World} {A : Around} {E : Value → Shared → Prop} {s : Shared}
theorem args_sum2 (a b : Value) : argsOk "sum" ⟨[a, b], []⟩ := by unfold argsOk; kernel_rfl
theorem sub_list_bytes' : isSubtype (.type "list") (.type "bytes") = pure false := by rw [isSubtype_type]; kernel_rfl
theorem sub_list_bytearray' : isSubtype (.type "list") (.type "bytearray") = pure false := by rw [isSubtype_type]; kernel_rfl
theorem sub_list_str' : isSubtype (.type "list") (.type "str") = pure false := by rw [isSubtype_type]; kernel_rfl
theorem call_sumL {l t0 : Addr} {items tot : Array Value} {m : Nat} {r : List (Array Value)} {Q : Value → Shared → Prop} (hh : A.in1.handled = none) (hl : s.heap.IsList l items) (ht : IsL s.heap t0 tot m) (hn : r.length = items.size) (hr : r ≠ [])
    (hel : ∀ (j : Nat) (x : Array Value), r[j]? = some x → ∃ (b : Addr) (m' : Nat), items[j]? = some (Value.ref b) ∧ IsL s.heap b x m') (hsz : (catA tot r).size ≤ sizeLine)
    (h : ∀ h' p m', s.heap.objs.size ≤ p → IsL h' p (catA tot r) m' → (∀ b o, s.heap.get? b = some o → h'.get? b = some o) → Q (.ref p) { s with heap := h' }) :
    wpAny (model prog w) A (call (.builtin "sum") [.ref l, .ref t0]) Q E s := by
  refine call_function_tree F.kind_sum F.plain_sum F.entry_sum (args_sum2 _ _) ?_
  unfold Builtin.«sum»
  simp only [List.length_cons, List.length_nil]
  rw [if_neg (by decide)]
  refine wpAny_bind (wpAny_of_eq (show Builtin.Builtins.bindParams "sum" ["start"] 0 ⟨[Value.ref t0], []⟩ = pure [some (Value.ref t0)] from rfl) ?_)
  refine wpAny_bind (wpAny_pyIter_list hl ?_)
  refine wpAny_bind (wpAny_pure ?_)
  simp only [List.forIn_cons, List.forIn_nil]
  have ht1 : IsL (s.heap.push { cls := .type "list_iterator", data := .fields #[.ref l, .int 0 0] }) t0 tot m := Heap.get?_push_of_some _ ht
  have tT : ∀ tk, ({ s with heap := s.heap.push { cls := .type "list_iterator", data := .fields #[.ref l, .int 0 0] }, toks := tk } : Shared).TypeIs (.ref t0) "list" := fun tk => ⟨_, ht1, rfl⟩
  refine wpAny_bind (wpAny_bind (wpAny_bind (wpAny_isInstance (T := "list") (b := false) (tT _) sub_list_str' ?_)))
  simp only [Bool.false_eq_true, if_false]
  refine wpAny_pure (wpAny_bind (wpAny_bind (wpAny_isInstance (T := "list") (b := false) (tT _) sub_list_bytes' ?_)))
  simp only [Bool.false_eq_true, if_false]
  refine wpAny_pure (wpAny_bind (wpAny_bind (wpAny_isInstance (T := "list") (b := false) (tT _) sub_list_bytearray' ?_)))
  simp only [Bool.false_eq_true, if_false]
  refine wpAny_pure (wpAny_pure ?_)
  refine wpAny_bind (wpAny_newObj_type ?_)
  have hsz1 : (s.heap.push { cls := .type "list_iterator", data := .fields #[.ref l, .int 0 0] }).objs.size = s.heap.objs.size + 1 := Heap.size_push ..
  have lt0 : t0 < s.heap.objs.size := Heap.lt_size ht
  have ll : l < s.heap.objs.size := by obtain ⟨_, q, _⟩ := hl; exact Heap.lt_size q
  have old : ∀ (b : Addr) (o : Obj), s.heap.get? b = some o → ((s.heap.push { cls := .type "list_iterator", data := .fields #[Value.ref l, .int 0 0] }).push { cls := .type "list", data := .seq #[Value.ref t0] }).get? b = some o := fun b o e => Heap.get?_push_of_some _ (Heap.get?_push_of_some _ e)
  refine wpAny_pure ⟨plainId_quiet F.plain_sum_loop _, sum_loopL (I := s.heap.objs.size) (S := (s.heap.push { cls := .type "list_iterator", data := .fields #[Value.ref l, .int 0 0] }).objs.size) (l := l) hh (items := items) (by rw [hsz1]; exact Nat.succ_ne_self _) (Nat.ne_of_gt (by rw [hsz1]; exact Nat.lt_succ_of_lt ll)) (Nat.ne_of_gt ll) r 0 _ t0 tot m 0 (by rw [Nat.zero_add]; exact hn) ?_ ?_ (Heap.get?_push_size _ rfl) (old _ _ ht) (Nat.ne_of_lt (by rw [hsz1]; exact Nat.lt_succ_of_lt lt0)) (Nat.ne_of_lt lt0) (fun j x hj => ?_) hsz fun h' T' m' q1 q2 q4 q3 => ?_⟩
  · exact ⟨_, Heap.get?_push_of_some _ (Heap.get?_push_size _ rfl), rfl, rfl⟩
  · obtain ⟨o, e, z⟩ := hl
    exact ⟨o, old _ _ e, z⟩
  · obtain ⟨b, m2, e1, e2⟩ := hel j x hj
    have lb : b < s.heap.objs.size := Heap.lt_size e2
    exact ⟨b, m2, by rw [Nat.zero_add]; exact e1, old _ _ e2, Nat.ne_of_lt (by rw [hsz1]; exact Nat.lt_succ_of_lt lb), Nat.ne_of_lt lb⟩
  · refine h h' T' m' ?_ q1 fun b o e => ?_
    · have := q2 hr
      refine Nat.le_trans ?_ this
      show s.heap.objs.size ≤ ((s.heap.push _).push _).objs.size
      rw [Heap.size_push, Heap.size_push]; omega
    · have lb : b < s.heap.objs.size := Heap.lt_size e
      exact q3 b o (Nat.ne_of_lt lb) (Nat.ne_of_lt (by rw [hsz1]; exact Nat.lt_succ_of_lt lb)) (old _ _ e)
end
end Tn
namespace Tn
open PySem PySem.Spec PyProof.Rows L2
def listsD : List D → Option (List (List D))
  | [] => some []
  | .list xs :: r => (listsD r).map (xs :: ·)
  | _ :: _ => none
/-- sum(lists, []) of one list at least -/
def gSumL (x y : D) : Option (List D) := match x, y with
  | .list (d :: ds), .list [] => match listsD (d :: ds) with
    | some ls => if ls.flatten.length ≤ big then some ls.flatten else none
    | none => none
  | _, _ => none
def lSumL (fa fb : XE) : XL := fun ε => bnd (fa ε) fun x => bnd (fb ε) fun y => lft (gSumL x y)
/-- lists of values, each standing at an address -/
inductive Lsts (H : Hp) : List V → List (List V) → Prop
  | nil : Lsts H [] []
  | cons {p : Addr} {zs : List V} {vs : List V} {zss : List (List V)} (h : H p = some (.lst zs)) (r : Lsts H vs zss) : Lsts H (.ref p :: vs) (zs :: zss)
theorem lsts_of [TB] {K : PySem.W.Frag} {H : Hp} {mu : Addr → Prop} : ∀ {ds : List D} {vs : List V} {ls : List (List D)}, Dvs K H mu vs ds → listsD ds = some ls → ∃ zss, Lsts H vs zss ∧ Dvs K H mu zss.flatten ls.flatten
  | [], vs, ls, h, e => by
    cases h
    cases e
    exact ⟨[], .nil, .nil⟩
  | d :: ds, vs, ls, h, e => by
    cases h with
    | cons h1 h2 =>
      cases d with
      | list xs =>
        have e : (listsD ds).map (xs :: ·) = some ls := e
        cases e2 : listsD ds with
        | none => rw [e2] at e; cases e
        | some l2 =>
          rw [e2] at e
          cases e
          obtain ⟨zss, q1, q2⟩ := lsts_of h2 e2
          cases h1 with
          | lst a1 a2 a3 => exact ⟨_ :: zss, .cons a1 q1, a3.app q2⟩
      | _ => cases e
def rSumL (K : PySem.W.Frag) : List V → Hp → VK → Prop := fun xs H Q => ∃ l b vs zss, xs = [.ref l, .ref b] ∧ SqL K H l vs ∧ H b = some (.lst []) ∧ vs ≠ [] ∧ Lsts H vs zss ∧ zss.flatten.length ≤ sizeLine ∧ ∀ p, H p = none → Q (.ref p) (upd H p (.lst zss.flatten))
theorem lsts_heap {X : Cx} {pins : List (Addr × Obj)} {σ : L2.St} {H : Hp} {s : Shared} (I : Inv X pins σ H s) : ∀ {vs : List V} {us : List Value} {zss : List (List V)}, Lsts H vs zss → Vals vs us → ∃ r : List (Array Value), r.length = us.length ∧ (∀ (j : Nat) (x : Array Value), r[j]? = some x → ∃ (b : Addr) (m' : Nat), us[j]? = some (Value.ref b) ∧ IsL s.heap b x m') ∧
    ∀ (av : List V) (au : List Value), Vals av au → Vals (av ++ zss.flatten) (catA au.toArray r).toList := by
  intro vs us zss h
  induction h generalizing us with
  | nil =>
    intro r
    cases r
    exact ⟨[], rfl, fun j x h => by simp at h, fun av au h => by simpa [catA] using h⟩
  | @cons p zs vs zss h hr ih =>
    intro r
    cases r with
    | cons r1 r2 =>
      cases r1
      obtain ⟨r, q1, q2, q3⟩ := ih r2
      obtain ⟨z, its, n, rv, hl, e⟩ := I.lstM h
      refine ⟨its.toArray :: r, by rw [List.length_cons, List.length_cons, q1], fun j x hj => ?_, fun av au ha => ?_⟩
      · cases j with
        | zero => cases hj; exact ⟨p, n, rfl, e⟩
        | succ j => exact q2 j x hj
      · have := q3 (av ++ zs) (au ++ its) (ha.append rv)
        rw [List.append_assoc] at this
        show Vals (av ++ (zs ++ zss.flatten)) (catA (au.toArray ++ its.toArray) r).toList
        have e2 : au.toArray ++ its.toArray = (au ++ its).toArray := by simp
        rw [e2]; exact this
theorem cr_sumL {X : Cx} (hc : X.calm = true) : CallR X (.builtin "sum") (rSumL X.K) := by
  intro pins s σ H xs us Q I r h
  obtain ⟨l, b, vs, zss, rfl, hl, hb, hne, hL, hz, q⟩ := h
  cases r with
  | cons r1 rr =>
    cases rr with
    | cons r2 rr =>
      cases rr
      cases r1
      cases r2
      obtain ⟨its, rv, pl, hz1⟩ := I.list hl
      obtain ⟨z, ib, n, rb, hlb, e⟩ := I.lstM hb
      cases rb
      obtain ⟨r, g1, g2, g3⟩ := lsts_heap I hL rv
      have g4 := g3 [] [] .nil
      rw [List.nil_append] at g4
      have sz : (catA #[] r).size = zss.flatten.length := by
        have := g4.length
        rw [Array.length_toList] at this
        exact this.symm
      refine call_sumL (tot := #[]) (m := n) (r := r) (I.ok.hd hc) pl.isList e (by rw [g1]; simp) (fun er => ?_) (fun j x hj => ?_) (by rw [sz]; exact hz) fun h' p m' hp hpl k => ?_
      · rw [er] at g1
        have : its = [] := List.eq_nil_of_length_eq_zero g1.symm
        subst this
        cases rv
        exact hne rfl
      · obtain ⟨b2, m2, e1, e2⟩ := g2 j x hj
        exact ⟨b2, m2, by simpa using e1, e2⟩
      · refine ⟨.ref p, _, I.laid (t' := s.toks) (o := .lst zss.flatten) k hp ?_, rfl, q p (I.hok.fresh hp)⟩
        exact ⟨hz, (catA #[] r).toList, m', g4, hpl⟩
theorem dl_sumL [TB] {X : Cx} {W : WX} {a b : Expr} {fa fb : XE} {p pos : Pos} (hc : X.calm = true) (hg : Gl X "sum") (hm : X.mg "sum" = none) (ha : DE X W a fa) (hb : DE X W b fb)
    (he : starEach [a, b] X.env = (false, eval a X.env) :: starEach [b] X.env := by rfl) (he2 : starEach [b] X.env = (false, eval b X.env) :: starEach [] X.env := by rfl) : DL X W (.Call (.Name "sum" p) [a, b] [] pos) (lSumL fa fb) := by
  refine ⟨(pe_callB (cr_sumL hc) hg hm (by decide +kernel) (pa_cons ha.pe (pa_cons hb.pe pa_nil he2) he) (by decide) (by decide) he (by rw [he2]; rfl)).weak fun σ H Q ⟨w, ε, S, rp, o⟩ => ?_⟩
  refine ⟨w, ε, S, rp, (OutM.bnd o).imp fun d1 io1 S1 H1 r1 x1 o1 x hx => ⟨w.at io1, ε, S1, r1, (OutM.bnd o1).imp fun d2 io2 S2 H2 r2 x2 o2 y hy => ?_⟩⟩
  obtain ⟨ds, e, k⟩ := o2.lft r2
  have hx2 := hx.exx x2
  unfold gSumL at e
  split at e
  · rename_i d ds1
    split at e
    · rename_i ls hls
      split at e
      · rename_i hsz
        cases e
        cases hx2 with
        | lst a1 a2 a3 =>
          cases hy with
          | lst b1 b2 b3 =>
            cases b3
            obtain ⟨zss, q1, q2⟩ := lsts_of a3 hls
            exact ⟨_, _, _, zss, rfl, .of a1, b1, (fun e0 => by subst e0; cases a3), q1, by rw [q2.len]; exact hsz, fun p hp => k H2 (Grow.refl H2) p _ hp q2⟩
      · cases e
    · cases e
  · cases e
end Tn
namespace Tn
open PySem PySem.Spec PyProof.Rows L2
/-- range(a, b, c) -/
def iR3 (a b c : XE) : XL := fun ε => bnd (a ε) fun x => bnd (b ε) fun y => bnd (c ε) fun z => match x, y, z with
  | .int i, .int j, .int k => if decide (k ≠ 0) && decide (k.natAbs < 1073741824) && Builtin.Range.small i j k && decide ((Builtin.Range.rangeSize i j k : Int) ≤ big) && decide (0 ≤ Builtin.Range.rangeSize i j k) then ret (rngD i k (Builtin.Range.rangeSize i j k).toNat) else stk
  | _, _, _ => stk
theorem di_r3 [TB] {X : Cx} {W : WX} {a b c : Expr} {fa fb fc : XE} {pos : Pos} {tg : Expr} {p : Pos} (hg : Gl X "range") (hm : X.mg "range" = none) (ha : DE X W a fa) (hb : DE X W b fb) (hc : DE X W c fc)
    (hs : starEach [a, b, c] X.env = (false, eval a X.env) :: starEach [b, c] X.env := by rfl) (hs2 : starEach [b, c] X.env = (false, eval b X.env) :: starEach [c] X.env := by rfl) (hs3 : starEach [c] X.env = (false, eval c X.env) :: starEach [] X.env := by rfl) (hpl : (backTo pos (starEach [b, c] X.env)).any (·.1) = false := by rfl) :
    DI X W tg (.Call (.Name "range" p) [a, b, c] [] pos) (iR3 fa fb fc) := by
  refine ⟨pi_imp (pi_range3 hg hm (pa_cons ha.pe (pa_cons hb.pe (pa_cons hc.pe pa_nil hs3) hs2) hs) hs hpl) fun pins s σ H R I ⟨w, ε, S, r, o⟩ => ⟨R, ?_, fun _ _ _ _ q => q⟩⟩
  refine ⟨w, ε, S, r, (OutM.bnd o).imp fun d io1 S1 H1 r1 x1 o1 v dv => ⟨w.at io1, ε, S1, r1, (OutM.bnd o1).imp fun d2 io2 S2 H2 r2 x2 o2 v2 dv2 => ⟨(w.at io1).at io2, ε, S2, r2, (OutM.bnd o2).imp fun d3 io3 S3 H3 r3 x3 o3 v3 dv3 => ?_⟩⟩⟩
  cases d with
  | int i =>
    cases d2 with
    | int j =>
      cases d3 with
      | int k =>
        obtain ⟨hz, o4⟩ := o3.ite
        clear o3
        simp only [Bool.and_eq_true, decide_eq_true_eq] at hz
        cases dv
        cases dv2
        cases dv3
        obtain ⟨⟨⟨⟨h1, h2⟩, h3⟩, h4⟩, h5⟩ := hz
        refine ⟨i, j, k, (Builtin.Range.rangeSize i j k).toNat, rfl, ⟨h1, h2, h3, by omega⟩, ?_⟩
        have z := OutM.ret o4 r3
        refine z _ (yld_rngD ?_)
        rw [← big_eq]; omega
      | _ => exact (show False from o3).elim
    | _ => cases d3 <;> exact (show False from o3).elim
  | _ => cases d2 <;> cases d3 <;> exact (show False from o3).elim
end Tn
end

section
set_option Elab.async false
set_option linter.all false
set_option maxRecDepth 100000
set_option maxHeartbeats 2000000
/-! several targets at once, some of them places of lists: a[i], b = e; comprehensions of two fors -/
namespace Tn
open PySem PySem.Spec PyProof.Rows L2
inductive Tx where
  | nm (i : Nat)
  | sub (i : Nat) (k : XE)
def stX : Tx → D → XS
  | .nm i, d => fun ε => ret (.nx (ε.set i (.sh d)))
  | .sub i k, d => fun ε => if mutL ε i = true then bnd (k ε) fun kd => chg i (gPut kd d) ε else stk
def stXs : List Tx → List D → XS
  | [], [] => fun ε => ret (.nx ε)
  | t :: ts, d :: ds => fun ε => bnd (stX t d ε) fun r => match r with
    | .nx ε1 => stXs ts ds ε1
    | _ => stk
  | _, _ => fun _ => stk
/-- t1, t2 = e -/
def sTgt (ts : List Tx) (e : XE) : XS := fun ε => bnd (e ε) fun x => match x with
  | .tuple ds => if ds.length = ts.length then stXs ts ds ε else stk
  | _ => stk
variable [TB]
def endQ (Q : L2.St → Hp → Prop) : Ends := ⟨Q, fun _ _ => False, fun _ _ => False, fun _ _ => False⟩
def tX (K : PySem.W.Frag) (mg : Str → Option Value) (W : WX) (t : Tx) : TG := fun v σ H Q => ∃ w ε S d D0, D0.nx = Q ∧ Rp K w ε S σ H ∧ Dv K H w.mu v d ∧ OutS K mg W w H (stX t d ε S) D0
def tXs (K : PySem.W.Frag) (mg : Str → Option Value) (W : WX) (ts : List Tx) : TGs := fun vs σ H Q => ∃ w ε S ds D0, D0.nx = Q ∧ Rp K w ε S σ H ∧ Dvs K H w.mu vs ds ∧ OutS K mg W w H (stXs ts ds ε S) D0
structure DX (X : Cx) (W : WX) (e : Expr) (t : Tx) : Prop where
  pg : PG X e (tX X.K X.mg W t)
structure DXs (X : Cx) (W : WX) (es : List Expr) (ts : List Tx) : Prop where
  pgs : PGs X es (tXs X.K X.mg W ts)
section
variable {X : Cx} {W : WX} {i : Nat} {x : Str} {e k : Expr} {fe fk : XE} {pos p1 p2 p3 : Pos}
theorem dx_nm (hN : X.N.Nodup) (hi : X.N[i]? = some x) (hx : Loc X.env.scope x) (hf : X.fn x = true ∨ X.env.scope.names.lookup x = some .local := by first | exact .inl rfl | exact .inr rfl | assumption) : DX X W (.Name x pos) (.nm i) := by
  refine ⟨(pg_name hN hi hx hf).weak fun v σ H Q ⟨w, ε, S, d, D0, e0, r, dv, o⟩ => ?_⟩
  subst e0
  exact OutS.nx o (r.keepSh dv i) (Ext.clr _ _ _) rfl
theorem dx_sub (ho : PE X (.Name x p1) (tVar i)) (hk : DE X W k fk)
    (hg : PG X (.Subscript (.Name x p1) k p2) (gSub (tVar i) (tE X.K X.mg W fk) L2.rSetL)) : DX X W (.Subscript (.Name x p1) k p2) (.sub i fk) := by
  refine ⟨hg.weak fun v σ H Q ⟨w, ε, S, d, D0, e0, r, dv, o⟩ => ?_⟩
  subst e0
  unfold stX at o
  obtain ⟨hm, o⟩ := o.ite
  obtain ⟨a, us, h1, h2⟩ := mutL_at r hm
  refine ⟨_, h1, w, ε, S, r, (OutS.exp o).imp fun kd io2 S2 H2 r2 x2 o2 kv kdv => ?_⟩
  obtain ⟨a', us', xs, ys, g1, g2, g3, g4, q⟩ := chg_read r2 o2
  rw [h1] at g1; cases g1
  unfold gPut at g4
  split at g4
  · split at g4
    · rename_i j hj
      cases g4
      cases kdv
      exact ⟨a, us', _, j, rfl, rfl, g2, by rw [g3.len]; exact hj, q _ (g3.set j (dv.exx x2))⟩
    · cases g4
  · cases g4
theorem dxs_nil : DXs X W [] [] := by
  refine ⟨pgs_nil.weak fun v σ H Q ⟨w, ε, S, ds, D0, e0, r, dv, o⟩ => ?_⟩
  subst e0
  cases ds with
  | nil =>
    cases dv
    exact ⟨rfl, OutS.nx o r (Ext.refl _ _) rfl⟩
  | cons d ds => exact o.elim
theorem dxs_cons {es : List Expr} {t : Tx} {ts : List Tx} (h : DX X W e t) (hs : DXs X W es ts) (ha : (assignEach (e :: es) X.env).map (·.2) = assign e X.env :: (assignEach es X.env).map (·.2) := by rfl) : DXs X W (e :: es) (t :: ts) := by
  refine ⟨(pgs_cons h.pg hs.pgs ha).weak fun vs σ H Q ⟨w, ε, S, ds, D0, e0, r, dv, o⟩ => ?_⟩
  subst e0
  cases ds with
  | nil => exact o.elim
  | cons d ds =>
    cases dv with
    | cons d1 d2 =>
      refine ⟨_, _, rfl, w, ε, S, d, endQ _, rfl, r, d1, ?_⟩
      have o : OutS X.K X.mg W w H (bnd (stX t d ε) (fun q => match q with | .nx ε1 => stXs ts ds ε1 | _ => stk) S) D0 := o
      unfold Tn.bnd at o
      cases eq : stX t d ε S with
      | none => rw [eq] at o; exact o
      | some q =>
        rw [eq] at o
        cases q with
        | ex y S1 => exact o
        | ok a S1 =>
          cases a with
          | nx ε1 => exact fun w1 σ1 H1 z1 r1 x1 => ⟨w1, ε1, S1, ds, D0, rfl, r1, d2.ext x1, OutS.anch o x1 z1⟩
          | bk ε1 => exact o.elim
          | ct ε1 => exact o.elim
          | rt v => exact o.elim
theorem ds_tgt {es : List Expr} {kk : Nat} {ts : List Tx} (hc : X.calm = true) (he : DE X W e fe) (h : DXs X W es ts) (hn : (assignEach es X.env).length = ts.length := by rfl) (hst : (assignEach es X.env).findIdx? (·.1) = none := by rfl)
    (hs : swapsWithSole [.Tuple es kk p2] e pos.line X.env = pure false := by rfl) (hw : swappedStores [.Tuple es kk p2] e X.env = pure none := by rfl) (h1 : (assignEach [.Tuple es kk p2] X.env).map (·.2) = [assign (.Tuple es kk p2) X.env] := by rfl) :
    DS X W (.Assign [.Tuple es kk p2] e pos) (sTgt ts fe) := by
  refine ⟨(ps_asg he.pe (pg_tup hc h.pgs hn hst) hs hw h1).weak fun D0 σ H ⟨w, ε, S, r, o⟩ => ?_⟩
  refine ⟨w, ε, S, r, (OutS.exp o).imp fun d io1 S1 H1 r1 x1 o1 v dv => ?_⟩
  cases d with
  | tuple ds =>
    obtain ⟨a, xs, rfl, ha, hx⟩ := Rv.tup (.inl dv)
    obtain ⟨hl, o1⟩ := OutS.ite o1
    exact ⟨a, xs, rfl, ha, by rw [hx.len, hl], w.at io1, ε, S1, ds, D0, rfl, r1, hx, o1⟩
  | _ => exact o1.elim
end
end Tn
namespace Tn
open PySem PySem.Spec PyProof.Rows L2
theorem dx_sub2 [TB] {X : Cx} {W : WX} {i : Nat} {x : Str} {k : Expr} {fk : XE} {p1 p2 : Pos} (ho : PE X (.Name x p1) (tVar i)) (hk : DE X W k fk)
    (ha : ∀ v, assign (.Subscript (.Name x p1) k p2) X.env v = (do
      let ov ← holding [v] (eval (.Name x p1) X.env)
      let iv ← holding [v, ov] (eval k X.env)
      standAt p2
      holding [v, ov, iv] (setItem ov iv v)
      release [v, ov, iv] []) := by intro _; rfl) : DX X W (.Subscript (.Name x p1) k p2) (.sub i fk) := dx_sub ho hk (pg_sub ho hk.pe set_list ha)
end Tn
end

section
set_option Elab.async false
set_option linter.all false
set_option maxRecDepth 100000
set_option maxHeartbeats 2000000
/-! comprehensions of two fors -/
namespace Tn
open PySem PySem.Spec PyProof.Rows L2
def compGo2 (tg : Tg) (c : XT) (it1 : XL) (tg1 : Tg) (c1 : XT) (e : XE) (vs1 : List Nat) (ε : Ev) : Nat → List D → M (List D)
  | _, [] => ret []
  | n, x :: r => match bindT tg x ε with
    | none => stk
    | some ε1 => bnd (qt (c ε1)) fun t => if t then bnd (qt (it1 ε1)) fun xs => if n + xs.length ≤ big then bnd (compGo tg1 c1 e (wip ε1 vs1) xs) fun ys => bnd (compGo2 tg c it1 tg1 c1 e vs1 ε (n + xs.length) r) fun zs => ret (ys ++ zs) else stk else compGo2 tg c it1 tg1 c1 e vs1 ε n r
def lComp2 (it : XL) (tg : Tg) (c : XT) (it1 : XL) (tg1 : Tg) (c1 : XT) (e : XE) (vs vs1 : List Nat) : XL := fun ε => bnd (it ε) fun items => if noOw ε vs = true then compGo2 tg c it1 tg1 c1 e vs1 (wip ε vs) 0 items else stk
theorem bnd_assoc {α β γ : Type} (m : M α) (f : α → M β) (k : β → M γ) : bnd (bnd m f) k = bnd m fun a => bnd (f a) k := by
  funext S
  unfold bnd
  cases m S with
  | none => rfl
  | some r => cases r <;> rfl
section
variable [TB] {K : PySem.W.Frag} {w w' w'' : Wd} {H H' H'' : Hp} {a : Addr}
theorem Exw.refl (w : Wd) (H : Hp) : Exw w H w H := ⟨fun _ _ _ h _ => h, fun _ _ h => h⟩
theorem Exw.trans (x : Exw w H w' H') (y : Exw w' H' w'' H'') : Exw w H w'' H'' where
  keep := fun a o n h q => y.keep a o (fun m => n (x.mus a ⟨o, h, q⟩ m)) (x.keep a o n h q) q
  mus := fun a k m => by
    by_cases h : w.mu a
    · exact h
    · obtain ⟨o, e, q⟩ := k
      exact absurd (x.mus a ⟨o, e, q⟩ (y.mus a ⟨o, x.keep a o h e q, q⟩ m)) h
theorem Exw.z (h : w.z a) (o : HO) : Exw w H w (upd H a o) := ⟨fun b u n e _ => by rw [upd_ne (fun q => n (by subst q; exact .inr h))]; exact e, fun _ _ h => h⟩
end
section
variable [TB] {X : Cx} {W : WX} {pos : Pos}
theorem wipe_idem {vs : List Nat} : ∀ (l : List Nat) (τ : L2.St), (∀ j ∈ l, j ∈ vs) → wipe (wipe τ l) vs = wipe τ vs
  | [], τ, _ => rfl
  | v :: l, τ, hl => by
    show wipe ((wipe τ l).set v none) vs = _
    rw [wipe_set (hl v List.mem_cons_self), wipe_idem l τ fun j hj => hl j (List.mem_cons_of_mem _ hj)]
/-- between two turns of the outer for -/
structure CO (K : PySem.W.Frag) (mg : Str → Option Value) (W : WX) (w1 : Wd) (ε : Ev) (σ : L2.St) (H1 : Hp) (D0 : Addr) (go : Nat → List D → M (List D)) (items : List D) (P : List D → List Addr → List D → Hp → Prop) (i : Nat) (H' : Hp) : Prop where
  lt : i ≤ items.length
  ex : ∃ n io S' accV accD, Rp K ((w1.ad D0).at io) ε S' σ H' ∧ Exx w1 H1 io H' ∧ H' D0 = some (.lst accV) ∧ Dvs K H' ((w1.ad D0).at io).mu accV accD ∧ accV.length ≤ n ∧
    OutM K mg W w1 ε σ H1 (go n (items.drop i) S') fun ys io' S'' H'' => P (accD ++ ys) io' S'' H''
/-- between two turns of the inner for -/
structure CI (K : PySem.W.Frag) (mg : Str → Option Value) (W : WX) (w1 : Wd) (ε : Ev) (σ : L2.St) (H1 : Hp) (D0 : Addr) (w5 : Wd) (H5 : Hp) (ε1 : Ev) (σ2 : L2.St) (go : List D → M (List D)) (rest : M (List D)) (n : Nat) (xs : List D) (P : List D → List Addr → List D → Hp → Prop) (j : Nat) (H' : Hp) : Prop where
  lt : j ≤ xs.length
  ex : ∃ io S' accV accD, Rp K ((w1.ad D0).at io) ε S' σ H' ∧ Rp K ((w1.ad D0).at io) ε1 S' σ2 H' ∧ Exx w1 H1 io H' ∧ Exw w5 H5 ((w1.ad D0).at io) H' ∧ H' D0 = some (.lst accV) ∧ Dvs K H' ((w1.ad D0).at io).mu accV accD ∧ accV.length ≤ n + j ∧
    OutM K mg W w1 ε σ H1 (bnd (go (xs.drop j)) (fun ys => bnd rest fun zs => ret (ys ++ zs)) S') fun ys io' S'' H'' => P (accD ++ ys) io' S'' H''
theorem lc2_read {K : PySem.W.Frag} {mg : Str → Option Value} {tg tg1 : Tg} {fit fit1 : XL} {fc fc1 : XT} {fe : XE} {vs vs1 : List Nat} (htg : ∀ i ∈ tgS tg, i ∈ vs) (htg1 : ∀ i ∈ tgS tg1, i ∈ vs1) (hv1 : ∀ i ∈ vs1, i ∈ vs) :
    ∀ σ H Q, tL K mg W (lComp2 fit tg fc fit1 tg1 fc1 fe vs vs1) σ H Q → tLc2 (tI K mg W fit) (tG K tg) (tTs K mg W0 fc) (tI K mg W0 fit1) (tG K tg1) (tTs K mg W0 fc1) (tE K mg W0 fe) vs vs1 σ H Q := by
  intro σ H Q ⟨w, ε, S, r, o⟩
  refine ⟨w, ε, S, r, (OutM.bnd o).imp fun items io1 S1 H1 r1 x1 o1 J y D0 hD => ?_⟩
  obtain ⟨hno, o1⟩ := o1.ite
  have hom : ∀ i ∈ vs, (w.at io1).om i = none := noOw_om r1 hno
  have hzD : ¬ (w.at io1).z D0 := fun z => (r1.zh D0 z).ne hD
  refine ⟨fun i m H' => m = items.length - i ∧ CO K mg W (w.at io1) ε σ H1 D0 (compGo2 tg fc fit1 tg1 fc1 fe vs1 (Tn.wip ε vs)) items (fun ds io' _ H' => ∀ p us, H' p = none → Dvs K H' ((w.at io1).at io').mu us ds → Q (.ref p) (upd H' p (.lst us))) i H',
    ⟨items.length, by simp, Nat.zero_le _, 0, io1, S1, [], [], r1.lay hD _, (Grow.upd hD).exx, upd_same, .nil, Nat.zero_le _, by simpa using o1⟩, ?_⟩
  rintro i m H' ⟨rfl, hle, n, io, S', accV, accD, rp, xx, hDv, hacc, hlen, om⟩
  have xt : Ext (w.at io1) H1 (((w.at io1).ad D0).at io) H' :=
    ⟨xx.pre, fun a z => by
      rcases z with z | z
      · exact .inl z
      · subst z; exact .inr (Kn.non hD), fun a o n q u => xx.kw a o (fun z => n (.inl z)) q u, fun a t => by
      rcases t with t | t
      · rcases xx.ni a t with t | t
        · exact .inl (.inl t)
        · exact .inr t
      · exact .inl (.inr t), xx.dm⟩
  obtain ⟨yi, yn⟩ := y.2 i _ H' xt.xw fun a z => rp.muz z
  by_cases hlt : i < items.length
  · have hit : items[i]? = some items[i] := List.getElem?_eq_getElem hlt
    obtain ⟨jgo, jy⟩ := yi _ hit
    refine .inr ⟨jgo, fun H2 => CO K mg W (w.at io1) ε σ H1 D0 (compGo2 tg fc fit1 tg1 fc1 fe vs1 (Tn.wip ε vs)) items _ (i + 1) H2, fun H2 c => ⟨items.length - (i + 1), by omega, rfl, c⟩, fun x H3 yl => ?_⟩
    obtain ⟨g3, dv⟩ := jy x H3 yl
    rw [List.drop_eq_getElem_cons hlt] at om
    unfold compGo2 at om
    cases eb : bindT tg items[i] (Tn.wip ε vs) with
    | none => simp only [eb] at om; exact om.elim
    | some ε1 =>
      simp only [eb] at om
      have rp3 := rp.grow g3
      have hom2 : ∀ j ∈ vs, (((w.at io1).ad D0).at io).om j = none := hom
      refine ⟨_, _, S', _, ε1, rp3.wip hom2, dv, eb, fun σ2 st r2 => ?_⟩
      refine ⟨st.wipe htg |>.trans (wipe_idem vs σ fun _ h => h), ?_⟩
      rw [Wd.clr_id (fun j hj => hom2 j (htg j hj))] at r2
      have hD3 : H3 D0 = some (.lst accV) := g3 _ _ hDv
      refine ⟨_, ε1, S', r2, OutM.quiet om fun b S4 io4 H4 _ om4 r4 x4 => ?_⟩
      have hzd : D0 ∉ io := fun z => rp.zd D0 (.inr rfl) (.inl z)
      have hD4 : H4 D0 = some (.lst accV) := x4.kw _ _ hzd hD3 nt_lst
      have rp4 : Rp K (((w.at io1).ad D0).at io4) ε S4 σ H4 := Rp.back (w := ((w.at io1).ad D0).at io) rp3 r4 x4
      have xx4 : Exx (w.at io1) H1 io4 H4 := (xx.trans (g3.exx (w := (w.at io1).at io))).trans (x4.re rfl)
      have hacc4 : Dvs K H4 (((w.at io1).ad D0).at io4).mu accV accD := Dvs.exx (w := ((w.at io1).ad D0).at io) (Dvs.ext hacc g3.ext) x4
      cases b with
      | false => exact ⟨hlt, n, io4, S4, accV, accD, rp4, xx4, hD4, hacc4, hlen, om4⟩
      | true =>
        simp only [if_true] at om4 ⊢
        refine ⟨_, ε1, S4, r4, OutM.quiet om4 fun xs S5 io5 H5 _ om5 r5 x5 J1 y1 => ?_⟩
        obtain ⟨hz, om5⟩ := om5.ite
        have hzd4 : D0 ∉ io4 := fun z => rp4.zd D0 (.inr rfl) (.inl z)
        have hD5 : H5 D0 = some (.lst accV) := x5.kw _ _ hzd4 hD4 nt_lst
        have rp5 : Rp K (((w.at io1).ad D0).at io5) ε S5 σ H5 := Rp.back (w := ((w.at io1).ad D0).at io4) rp4 r5 x5
        have xx5 : Exx (w.at io1) H1 io5 H5 := xx4.trans (x5.re rfl)
        have hacc5 : Dvs K H5 (((w.at io1).ad D0).at io5).mu accV accD := Dvs.exx (w := ((w.at io1).ad D0).at io4) hacc4 x5
        refine ⟨fun j k H' => k = xs.length - j ∧ CI K mg W (w.at io1) ε σ H1 D0 (((w.at io1).ad D0).at io5) H5 ε1 σ2 (compGo tg1 fc1 fe (Tn.wip ε1 vs1)) (compGo2 tg fc fit1 tg1 fc1 fe vs1 (Tn.wip ε vs) (n + xs.length) (items.drop (i + 1))) n xs (fun ds io' _ H' => ∀ p us, H' p = none → Dvs K H' ((w.at io1).at io').mu us ds → Q (.ref p) (upd H' p (.lst us))) j H',
          ⟨xs.length, by simp, Nat.zero_le _, io5, S5, accV, accD, rp5, r5, xx5, Exw.refl _ _, hD5, hacc5, hlen, by simpa using om5⟩, ?_⟩
        rintro j k H6 ⟨rfl, hle1, io6, S6, accV6, accD6, rp6, r6, xx6, xw6, hD6, hacc6, hlen6, om6⟩
        obtain ⟨yi1, yn1⟩ := y1.2 j _ H6 xw6 fun a z => r6.muz z
        by_cases hlt1 : j < xs.length
        · have hit1 : xs[j]? = some xs[j] := List.getElem?_eq_getElem hlt1
          obtain ⟨jgo1, jy1⟩ := yi1 _ hit1
          refine .inr ⟨jgo1, fun H2 => CI K mg W (w.at io1) ε σ H1 D0 (((w.at io1).ad D0).at io5) H5 ε1 σ2 (compGo tg1 fc1 fe (Tn.wip ε1 vs1)) (compGo2 tg fc fit1 tg1 fc1 fe vs1 (Tn.wip ε vs) (n + xs.length) (items.drop (i + 1))) n xs _ (j + 1) H2, fun H2 c => ⟨xs.length - (j + 1), by omega, rfl, c⟩, fun x H7 yl => ?_⟩
          obtain ⟨g7, dv7⟩ := jy1 x H7 yl
          rw [List.drop_eq_getElem_cons hlt1] at om6
          unfold compGo at om6
          cases eb1 : bindT tg1 xs[j] (Tn.wip ε1 vs1) with
          | none => simp only [eb1] at om6; exact om6.elim
          | some ε3 =>
            simp only [eb1] at om6
            rw [bnd_assoc] at om6
            have rp7 := rp6.grow g7
            have r7 := r6.grow g7
            have hom3 : ∀ j ∈ vs1, (((w.at io1).ad D0).at io6).om j = none := fun j hj => hom j (hv1 j hj)
            refine ⟨_, _, S6, _, ε3, r7.wip hom3, dv7, eb1, fun σ3 st3 r8 => ?_⟩
            refine ⟨st3.wipe htg1 |>.trans (wipe_idem vs1 σ2 fun _ h => h), ?_⟩
            rw [Wd.clr_id (fun j hj => hom3 j (htg1 j hj))] at r8
            have hD7 : H7 D0 = some (.lst accV6) := g7 _ _ hD6
            refine ⟨_, ε3, S6, r8, OutM.quiet om6 fun b1 S9 io9 H9 _ om9 r9 x9 => ?_⟩
            have hzd6 : D0 ∉ io6 := fun z => rp6.zd D0 (.inr rfl) (.inl z)
            have hD9 : H9 D0 = some (.lst accV6) := x9.kw _ _ hzd6 hD7 nt_lst
            have rp9 : Rp K (((w.at io1).ad D0).at io9) ε S9 σ H9 := Rp.back (w := ((w.at io1).ad D0).at io6) rp7 r9 x9
            have rq9 : Rp K (((w.at io1).ad D0).at io9) ε1 S9 σ2 H9 := Rp.back (w := ((w.at io1).ad D0).at io6) r7 r9 x9
            have xx9 : Exx (w.at io1) H1 io9 H9 := (xx6.trans (g7.exx (w := (w.at io1).at io6))).trans (x9.re rfl)
            have hacc9 : Dvs K H9 (((w.at io1).ad D0).at io9).mu accV6 accD6 := Dvs.exx (w := ((w.at io1).ad D0).at io6) (Dvs.ext hacc6 g7.ext) x9
            have xw9 : Exw (((w.at io1).ad D0).at io5) H5 (((w.at io1).ad D0).at io9) H9 := (xw6.trans (g7.ext (w := ((w.at io1).ad D0).at io6)).xw).trans (x9.ext).xw
            cases b1 with
            | false =>
              simp only [Bool.false_eq_true, if_false] at om9
              exact ⟨hlt1, io9, S9, accV6, accD6, rp9, rq9, xx9, xw9, hD9, hacc9, by omega, om9⟩
            | true =>
              simp only [if_true] at om9 ⊢
              rw [bnd_assoc] at om9
              refine ⟨_, ε3, S9, r9, OutM.quiet om9 fun yd S10 io10 H10 _ om10 r10 x10 yv ydv => ?_⟩
              have hzd9 : D0 ∉ io9 := fun z => rp9.zd D0 (.inr rfl) (.inl z)
              have hD10 : H10 D0 = some (.lst accV6) := x10.kw _ _ hzd9 hD9 nt_lst
              have rp10 : Rp K (((w.at io1).ad D0).at io10) ε S10 σ H10 := Rp.back (w := ((w.at io1).ad D0).at io9) rp9 r10 x10
              have rq10 : Rp K (((w.at io1).ad D0).at io10) ε1 S10 σ2 H10 := Rp.back (w := ((w.at io1).ad D0).at io9) rq9 r10 x10
              have xx10 : Exx (w.at io1) H1 io10 H10 := xx9.trans (x10.re rfl)
              have hacc10 : Dvs K H10 (((w.at io1).ad D0).at io10).mu accV6 accD6 := Dvs.exx (w := ((w.at io1).ad D0).at io9) hacc9 x10
              have xw10 : Exw (((w.at io1).ad D0).at io5) H5 (((w.at io1).ad D0).at io10) H10 := xw9.trans (x10.ext).xw
              have zD : (((w.at io1).ad D0).at io10).z D0 := .inr rfl
              refine ⟨accV6, hD10, by rw [← big_eq]; omega, hlt1, io10, S10, accV6 ++ [yv], accD6 ++ [yd], rp10.zup zD hD10, rq10.zup zD hD10, ?_, xw10.trans (Exw.z zD _), upd_same, Dvs.zup (hacc10.app (.cons ydv .nil)) zD _, by rw [List.length_append, List.length_singleton]; omega, ?_⟩
              · refine ⟨xx10.pre, fun a o n q u => ?_, xx10.ni, fun a q => ?_⟩
                · rw [upd_ne (fun e => by subst e; rw [hD] at q; cases q)]; exact xx10.kw a o n q u
                · by_cases e : a = D0
                  · subst e; exact absurd q (Kn.non hD)
                  · obtain ⟨u, q1, q2⟩ := xx10.dm a q; exact ⟨u, by rw [upd_ne e]; exact q1, q2⟩
              · rw [bnd_assoc] at om10
                have e : (fun a => bnd (ret (yd :: a)) fun ys => bnd (compGo2 tg fc fit1 tg1 fc1 fe vs1 (Tn.wip ε vs) (n + xs.length) (items.drop (i + 1))) fun zs => ret (ys ++ zs)) = fun a => bnd (bnd (compGo2 tg fc fit1 tg1 fc1 fe vs1 (Tn.wip ε vs) (n + xs.length) (items.drop (i + 1))) fun zs => ret (a ++ zs)) fun zs => ret (yd :: zs) := by
                  funext a
                  rw [bnd_assoc]; rfl
                rw [e, ← bnd_assoc] at om10
                refine (OutM.bnd om10).imp fun ys io11 S11 H11 r11 x11 o11 => ?_
                have := OutM.ret o11 r11
                simpa [List.append_assoc] using this
        · have hj : j = xs.length := by omega
          refine .inl ⟨yn1 (by omega), hlt, n + xs.length, io6, S6, accV6, accD6, rp6, xx6, hD6, hacc6, by omega, ?_⟩
          rw [hj, List.drop_length] at om6
          have e : bnd (compGo tg1 fc1 fe (Tn.wip ε1 vs1) []) (fun ys => bnd (compGo2 tg fc fit1 tg1 fc1 fe vs1 (Tn.wip ε vs) (n + xs.length) (items.drop (i + 1))) fun zs => ret (ys ++ zs)) S6 = bnd (compGo2 tg fc fit1 tg1 fc1 fe vs1 (Tn.wip ε vs) (n + xs.length) (items.drop (i + 1))) (fun zs => ret zs) S6 := rfl
          rw [e] at om6
          refine (OutM.bnd om6).imp fun ys io11 S11 H11 r11 x11 o11 => ?_
          exact OutM.ret o11 r11
  · have hi : i = items.length := by omega
    refine .inl ⟨yn (by omega), ?_⟩
    rw [hi, List.drop_length] at om
    have hq := om io (Tn.del H' D0) (Rp.del rp hzD hDv) ⟨xx.pre, fun a o n q u => by
        rw [del_ne (fun e => by subst e; rw [hD] at q; cases q)]; exact xx.kw a o n q u, xx.ni, fun a q => by
        by_cases e : a = D0
        · subst e; exact absurd q (Kn.non hD)
        · obtain ⟨u, q1, q2⟩ := xx.dm a q; exact ⟨u, by rw [del_ne e]; exact q1, q2⟩⟩ D0 accV del_same
    rw [List.append_nil] at hq
    have hq := hq (Dvs.del (w := (w.at io1).at io) hacc)
    rw [upd_del hDv] at hq
    exact hq
theorem dl_comp2 {elt tgE iter tgE1 iter1 : Expr} {ifs ifs1 : List Expr} {scope : Scope} {own : List (Str × Nat)} {vs1 : List Nat} {tg tg1 : Tg} {fit fit1 : XL} {fc fc1 : XT} {fe : XE} (hc : X.calm = true) (hN : X.N.Nodup) (hi : DI X W tgE iter fit) (ok : BlkOk X.N X.env.scope scope own)
    (hv : ∀ i ∈ vs1, i ∈ own.map (·.2)) (htg : ∀ i ∈ tgS tg, i ∈ own.map (·.2)) (htg1 : ∀ i ∈ tgS tg1, i ∈ vs1)
    (hg : ∀ (s : Shared) (H : Hp) (C : Addr) (cl : List (Str × Addr)) (fp : List Addr), DG (X.blk s H scope (compEnvC scope cl C X.env) fp) tgE tg) (ht : ∀ (s : Shared) (H : Hp) (C : Addr) (cl : List (Str × Addr)) (fp : List Addr), DTs (X.blk s H scope (compEnvC scope cl C X.env) fp) W0 ifs fc)
    (hi1 : ∀ (s : Shared) (H : Hp) (C : Addr) (cl : List (Str × Addr)) (fp : List Addr), DI (X.blk s H scope (compEnvC scope cl C X.env) fp) W0 tgE1 iter1 fit1)
    (hg1 : ∀ (s : Shared) (H : Hp) (C : Addr) (cl : List (Str × Addr)) (fp : List Addr), DG (X.blk s H scope (compEnvC scope cl C X.env) fp) tgE1 tg1) (ht1 : ∀ (s : Shared) (H : Hp) (C : Addr) (cl : List (Str × Addr)) (fp : List Addr), DTs (X.blk s H scope (compEnvC scope cl C X.env) fp) W0 ifs1 fc1)
    (he : ∀ (s : Shared) (H : Hp) (C : Addr) (cl : List (Str × Addr)) (fp : List Addr), DE (X.blk s H scope (compEnvC scope cl C X.env) fp) W0 elt fe) (hs : ∀ x, foldedSetIterable iter X.env x = pure x := by intro _; rfl) (hs1 : ∀ env x, foldedSetIterable iter1 env x = pure x := by intro _ _; rfl) :
    DL X W (.ListComp elt [⟨tgE, iter, ifs, 0⟩, ⟨tgE1, iter1, ifs1, 0⟩] scope pos) (lComp2 fit tg fc fit1 tg1 fc1 fe (own.map (·.2)) vs1) := by
  refine ⟨(pe_lc2 (g := tG X.K tg) (g1 := tG X.K tg1) (tt := tTs X.K X.mg W0 fc) (tt1 := tTs X.K X.mg W0 fc1) (te := tE X.K X.mg W0 fe) (wi1 := tI X.K X.mg W0 fit1) hc hN hi.pi ok hv (fun s H C cl fp => (hg s H C cl fp).pg) (fun s H C cl fp => (ht s H C cl fp).pts) (fun s H C cl fp => (hi1 s H C cl fp).pi) (fun s H C cl fp => (hg1 s H C cl fp).pg) (fun s H C cl fp => (ht1 s H C cl fp).pts) (fun s H C cl fp => (he s H C cl fp).pe) hs hs1).weak fun σ H Q ⟨w, ε, S, r, o⟩ => ?_⟩
  exact lc2_read htg htg1 hv σ H Q ⟨w, ε, S, r, o⟩
end
end Tn
namespace Tn
open PySem PySem.Spec PyProof.Rows L2
theorem lc_asg2 [TB] {X : Cx} {W : WX} {i : Nat} {pos : Pos} {elt tgE iter tgE1 iter1 : Expr} {ifs ifs1 : List Expr} {scope : Scope} {own : List (Str × Nat)} {vs1 : List Nat} {tg tg1 : Tg} {fit fit1 : XL} {fc fc1 : XT} {fe : XE} {x : Str} {py lpos : Pos} (hc : X.calm = true) (hN : X.N.Nodup) (hy : X.N[i]? = some x) (hyl : X.env.scope.names.lookup x = some .local)
    (hsw : swapsWith (.ListComp elt [⟨tgE, iter, ifs, 0⟩, ⟨tgE1, iter1, ifs1, 0⟩] scope lpos) (some (.Name x py)) pos.line X.env = pure true) (hi : DI X W tgE iter fit) (ok : BlkOk X.N X.env.scope scope own)
    (hv : ∀ i ∈ vs1, i ∈ own.map (·.2)) (htg : ∀ i ∈ tgS tg, i ∈ own.map (·.2)) (htg1 : ∀ i ∈ tgS tg1, i ∈ vs1)
    (hg : ∀ (s : Shared) (H : Hp) (C : Addr) (cl : List (Str × Addr)) (fp : List Addr), DG (X.blk s H scope (compEnvC scope cl C X.env) fp) tgE tg) (ht : ∀ (s : Shared) (H : Hp) (C : Addr) (cl : List (Str × Addr)) (fp : List Addr), DTs (X.blk s H scope (compEnvC scope cl C X.env) fp) W0 ifs fc)
    (hi1 : ∀ (s : Shared) (H : Hp) (C : Addr) (cl : List (Str × Addr)) (fp : List Addr), DI (X.blk s H scope (compEnvC scope cl C X.env) fp) W0 tgE1 iter1 fit1)
    (hg1 : ∀ (s : Shared) (H : Hp) (C : Addr) (cl : List (Str × Addr)) (fp : List Addr), DG (X.blk s H scope (compEnvC scope cl C X.env) fp) tgE1 tg1) (ht1 : ∀ (s : Shared) (H : Hp) (C : Addr) (cl : List (Str × Addr)) (fp : List Addr), DTs (X.blk s H scope (compEnvC scope cl C X.env) fp) W0 ifs1 fc1)
    (he : ∀ (s : Shared) (H : Hp) (C : Addr) (cl : List (Str × Addr)) (fp : List Addr), DE (X.blk s H scope (compEnvC scope cl C X.env) fp) W0 elt fe) (hs : ∀ x, foldedSetIterable iter X.env x = pure x := by intro _; rfl) (hs1 : ∀ env x, foldedSetIterable iter1 env x = pure x := by intro _ _; rfl) :
    PS X (.Assign [.Name x py] (.ListComp elt [⟨tgE, iter, ifs, 0⟩, ⟨tgE1, iter1, ifs1, 0⟩] scope lpos) pos) (tAsg (tL X.K X.mg W (lComp2 fit tg fc fit1 tg1 fc1 fe (own.map (·.2)) vs1)) (gName i)) :=
  (ps_setLc2 (g := tG X.K tg) (g1 := tG X.K tg1) (tt := tTs X.K X.mg W0 fc) (tt1 := tTs X.K X.mg W0 fc1) (te := tE X.K X.mg W0 fe) (wi1 := tI X.K X.mg W0 fit1) hc hN hy hyl hsw hi.pi ok hv (fun s H C cl fp => (hg s H C cl fp).pg) (fun s H C cl fp => (ht s H C cl fp).pts) (fun s H C cl fp => (hi1 s H C cl fp).pi) (fun s H C cl fp => (hg1 s H C cl fp).pg) (fun s H C cl fp => (ht1 s H C cl fp).pts) (fun s H C cl fp => (he s H C cl fp).pe) hs hs1).weak fun D0 σ H h => lc2_read htg htg1 hv σ H _ h
end Tn
end

section
set_option Elab.async false
set_option linter.all false
set_option maxRecDepth 100000
set_option maxHeartbeats 2000000
/-! sorted(d), d a dict whose keys are tuples -/
namespace Tn
open PySem PySem.Spec PyProof.Rows L2
section
variable [TB] {X : Cx}
theorem keys_each {P : Program} {w : World} {H : Hp} {mu : Addr → Prop} {K : PySem.W.Frag} (m : ∀ b, mu b → Kz H b) : ∀ {kvs : List (List L2.Key × V)} {ks : List (List L2.Key × Addr × Value)} {ds : List (D × D)}, KT H kvs ks → Kvt K H mu kvs ds → PySem.W.EachIs (fun u d => ∃ v, RelV v u ∧ Dv K H mu v d) (ks.map fun x => Value.ref x.2.1) (ds.map (·.1))
  | _, _, _, .nil, h => by cases h; exact .nil
  | _, _, _, .cons h t, g => by
    cases g with
    | cons g1 g2 g3 =>
      refine .cons ⟨.ref _, rfl, .tup h.2.1 (fun z => ?_) (dvs_kD g1)⟩ (keys_each (P := P) (w := w) m t g3)
      obtain ⟨o, e, mo⟩ := m _ z
      rw [h.2.1] at e; cases e
      rcases mo with ⟨_, e⟩ | ⟨_, e⟩ | ⟨_, e⟩ <;> cases e
def rKT (K : PySem.W.Frag) : List V → Hp → VK → Prop := fun xs H Q => ∃ (a : Addr) (kvs : List (List L2.Key × V)) (ds : List (D × D)) (mu : Addr → Prop), xs = [.ref a] ∧ H a = some (.dT kvs) ∧ Kvt K H mu kvs ds ∧ (∀ b, mu b → Kz H b) ∧ sortOk (ds.map (·.1)) = true ∧
    ∀ (p : Addr) (vs : List V), H p = none → Dvs K H mu vs (sortD (ds.map (·.1))) → Q (.ref p) (upd H p (.lst vs))
theorem call_sortedDT (hu : X.A.units + 100 < cLine) (hc : X.calm = true) : CallR X (.builtin "sorted") (rKT X.K) := by
  intro pins s σ H xs us Q I rs h
  obtain ⟨a, kvs, ds, mu, rfl, hd, kk, m, hz, q⟩ := h
  obtain ⟨u, rfl, rx⟩ := rs.one
  cases rx
  obtain ⟨z, hs, ks, pr, o, es, ep, ho, hx, hdt, he, hn⟩ := (show ObjOk X.prog X.w H s.heap a (.dT kvs) from I.hok a _ hd)
  have l1 : es.size = ks.length := size_of_entries he
  have l2 : kvs.length = ks.length := Paired.length pr
  have l3 := kvt_len kk
  obtain ⟨z1, z2, z3⟩ := sortOk_of hz
  refine call_function_entry_kw PyProof.Rows.kind_sorted PyProof.Rows.plain_sorted PyProof.Rows.entry_sorted (PyProof.Rows.args_sorted1 _) ?_
  unfold Builtin.«sorted»
  refine wpAny_bind (m := checkCount "sorted" 1 1 _) (wpAny_pure ?_)
  refine wpAny_bind (PySem.W.kdu_collect (A := X.A.in1) (kdl_raw hs hx hdt) (I.ok.hd hc) ho (by omega) fun h' tk acc hk hacc => ?_)
  have ea : acc.toList = ks.map fun x => Value.ref x.2.1 := by
    have hl : acc.toList.length = ks.length := by rw [Array.length_toList, hacc.1]; exact l1
    apply List.ext_getElem?
    intro j
    rw [List.getElem?_map]
    cases hj : acc.toList[j]? with
    | none =>
      have h1 := List.getElem?_eq_none_iff.mp hj
      rw [List.getElem?_eq_none (by omega)]
      all_goals rfl
    | some v =>
      obtain ⟨en, hen, hv⟩ := hacc.2 j v (by rw [← Array.getElem?_toList]; exact hj)
      have qe := entry_at he j
      rw [hen] at qe
      cases hb : ks[j]? with
      | none =>
        rw [hb] at qe
        exact nomatch (show some en = none from qe)
      | some b =>
        rw [hb] at qe
        have e2 : en = entryOfKey (tupleKind (mixKind X.prog X.w)) b := Option.some.inj qe
        rw [hv, e2]
        all_goals rfl
  have ee := keys_each (P := X.prog) (w := X.w) m pr kk
  rw [← ea] at ee
  have hal : acc.toList.length = ks.length := by rw [ea, List.length_map]
  refine wpAny_bind (wpAny_newList ?_ (by rw [hal]; omega))
  have hoL : (h'.push (seqObj "list" acc.toList.toArray 0)).get? h'.objs.size = some (seqObj "list" acc.toList.toArray 0) := Heap.get?_push_size _ rfl
  show wpAny _ _ _ _ _ { s with heap := h'.push (seqObj "list" acc.toList.toArray 0), toks := tk }
  have old : ∀ b o, s.heap.get? b = some o → (PySem.W.sortingHeap (h'.push (seqObj "list" acc.toList.toArray 0)) h'.objs.size acc.toList).get? b = some o := fun b o e => by
    have e2 := hk b o e
    exact PySem.W.sortingHeap_old (Nat.ne_of_lt (Heap.lt_size e2)) (Heap.get?_push_of_some _ e2)
  have er2 : PySem.W.EachIs (fun v d => ∃ as, Reads (PySem.W.sortingHeap (h'.push (seqObj "list" acc.toList.toArray 0)) h'.objs.size acc.toList) v d as) acc.toList (ds.map (·.1)) := ee.mono fun u d ⟨v, r, dv⟩ => by
    obtain ⟨as, rd⟩ := Dp.reads I _ _ _ (Dv.dp _ _ dv) r
    exact ⟨as, PyProof.Rows.Reads.keeps old rd⟩
  have em : ((ds.map (·.1)).map fun d => d) = ds.map (·.1) := List.map_id' _
  have srt := PySem.W.SortsAt.data (prog := X.prog) (w := X.w) (A := X.A.in1.in1) (s := { s with heap := PySem.W.sortingHeap (h'.push (seqObj "list" acc.toList.toArray 0)) h'.objs.size acc.toList, toks := tk }) (PySem.W.each_map (R := fun v d => ∃ as, Reads (PySem.W.sortingHeap (h'.push (seqObj "list" acc.toList.toArray 0)) h'.objs.size acc.toList) v d as) (fun d => d) er2) (by rw [em]; exact z1) (by rw [em]; exact z2) (PySem.W.bound_map (enc := fun d => d) fun b hb => (show X.A.units + 2 + b.depth < cLine by have := depth_mem hb; omega))
  refine wpAny_bind (wpAny_holding (wpAny_call_entry_kw PyProof.Rows.slot_list_sort ⟨_, hoL, rfl⟩ PyProof.Rows.entry_list_sort ?body (PyProof.Rows.args_list_sort _)))
  case body =>
    have I1 : Inv X pins σ H { s with heap := h', toks := tk } := I.kept hk
    have fin : ∀ out : List Value, out.length = acc.toList.length → PySem.W.EachIs (fun u d => ∃ v, RelV v u ∧ Dv X.K H mu v d) out (sortD (ds.map (·.1))) → EP X pins σ Q (.ref h'.objs.size) { s with heap := sortedHeap (h'.push (seqObj "list" acc.toList.toArray 0)) h'.objs.size acc.toList out.toArray, toks := tk } := fun out hlen hout => by
      obtain ⟨vs, r2, k2⟩ := each_dvs hout
      obtain ⟨e', he'⟩ := PyProof.Rows.sortedHeap_at (vs := acc.toList) (out := out.toArray) hoL
      refine ⟨.ref _, upd H h'.objs.size (.lst vs), I1.laid (t' := tk) (fun b u e => ?_) (Nat.le_refl _) ⟨by rw [r2.length, hlen, hal]; omega, out, e', r2, he'⟩, rfl, q _ vs (I1.hok.fresh (Nat.le_refl _)) k2⟩
      have hb : b < h'.objs.size := Heap.lt_size e
      rw [PyProof.Rows.sortedHeap_old (Nat.ne_of_lt hb) (by rw [size_push']; exact Nat.lt_succ_of_lt hb)]
      exact Heap.get?_push_of_some _ e
    refine wpAny_mono (PySem.W.list_sort_vals (s := { s with heap := h'.push (seqObj "list" acc.toList.toArray 0), toks := tk }) (P := fun f s' => f = .done (.ret .none) ∧ EP X pins σ Q (.ref h'.objs.size) s') hoL srt (by rw [hal]; omega) ⟨rfl, fin _ (by rw [PySem.W.sortVals_length false rfl]) (by
      have := PySem.W.sortVals_data false ee er2 (by rw [em]; exact z1)
      exact this)⟩) (fun f s2 hf => ?_) fun _ _ e => e
    obtain ⟨rfl, hq⟩ := hf
    exact ⟨_, rfl, wpAny_pure ⟨_, rfl, hq⟩⟩
theorem kSlT_at {K : PySem.W.Frag} {w : Wd} {ε : Ev} {S : List D} {σ : L2.St} {H : Hp} {i : Nat} {mg : Str → Option Value} {W : WX} {α : Type} {f : List (D × D) → M α} {Pq : α → List Addr → List D → Hp → Prop} (r : Rp K w ε S σ H) (o : OutM K mg W w ε σ H (bnd (kSlT i ε) f S) Pq) :
    ∃ ds a kvs, ε[i]? = some (.lk (.tuple [.dict ds])) ∧ w.om i = some a ∧ σ[i]? = some (some (.ref a)) ∧ H a = some (.dT kvs) ∧ Kvt K H w.mu kvs ds ∧ OutM K mg W w ε σ H (f ds S) Pq := by
  unfold kSlT at o
  cases e : ε[i]? with
  | none => rw [e] at o; exact o.elim
  | some s =>
    rw [e] at o
    cases s with
    | lk d =>
      obtain ⟨q, h1, a, h2, rfl, ⟨kvs, ds, rfl, h3, h4⟩ | ⟨kvs, ds, rfl, h3, h4⟩⟩ := r.sl i _ e
      · exact o.elim
      · exact ⟨ds, a, kvs, rfl, h2, h1, h3, h4, o⟩
    | _ => exact o.elim
/-- sorted(d) -/
def gSortKT (ds : List (D × D)) : Option (List D) := if sortOk (ds.map (·.1)) = true then some (sortD (ds.map (·.1))) else none
def lSKT (i : Nat) : XL := fun ε => bnd (kSlT i ε) fun ds => lft (gSortKT ds)
theorem dl_sortKT {W : WX} {i : Nat} {x : Str} {p p1 pos : Pos} (hu : X.A.units + 100 < cLine) (hc : X.calm = true) (hg : Gl X "sorted") (hm : X.mg "sorted" = none) (ho : PE X (.Name x p1) (tVar i))
    (he : starEach [.Name x p1] X.env = (false, eval (.Name x p1) X.env) :: starEach [] X.env := by rfl) : DL X W (.Call (.Name "sorted" p) [.Name x p1] [] pos) (lSKT i) := by
  refine ⟨(pe_callB (call_sortedDT hu hc) hg hm (by decide +kernel) (pa_cons ho pa_nil he) (by decide) (by decide) he (by rfl)).weak fun σ H Q ⟨w, ε, S, r, o⟩ => ?_⟩
  obtain ⟨ds, a, kvs, h1, h2, h3, h4, h5, o⟩ := kSlT_at r o
  refine ⟨_, h3, ?_⟩
  obtain ⟨m, e1, q⟩ := OutM.lft o r
  unfold gSortKT at e1
  split at e1
  · rename_i hs
    cases e1
    exact ⟨a, kvs, ds, w.mu, rfl, h4, h5, fun b z => r.muz z, hs, fun p vs hp hv => q H (Grow.refl H) p vs hp hv⟩
  · cases e1
end
end Tn
namespace Tn
open PySem PySem.Spec PyProof.Rows L2
/-- x = tuple(l); return x[::-1] if c else x -/
def sNewRet (i : Nat) (l : XE) (c : XT) : XS := fun ε => bnd (l ε) fun x => match x with
  | .list ds => if i < ε.length then bnd (c (ε.set i (.sh (.tuple ds)))) fun t => ret (.rt (.lk (.tuple (if t = true then ds.reverse else ds)))) else stk
  | _ => stk
theorem dss_newRet [TB] {X : Cx} {W : WX} {i : Nat} {x : Str} {e c : Expr} {fe : XE} {fc : XT} {pos pos9 pos2 py p p0 p1 p2 p3 p4 p5 p6 : Pos} {j : Nat} (hN : X.N.Nodup) (hi : X.N[i]? = some x) (hx : Loc X.env.scope x) (hg : Gl X "tuple") (hm : X.mg "tuple" = none) (he : DE X W e fe) (hc : DT X W c fc) (pv1 : PE X (.Name x p1) (tVar i)) (pv2 : PE X (.Name x p6) (tVar i))
    (hst : starEach [e] X.env = (false, eval e X.env) :: starEach [] X.env := by rfl) (hs : swapsWith (.Call (.Name "tuple" p) [e] [] p0) (some (.Name x py)) pos.line X.env = pure false := by rfl) (hf : X.fn x = true ∨ X.env.scope.names.lookup x = some .local := by first | exact .inl rfl | exact .inr rfl | assumption) :
    DSs X W [.Assign [.Name x py] (.Call (.Name "tuple" p) [e] [] p0) pos, .Return (some (.IfExp c (.Subscript (.Name x p1) (.Slice none none (some (.UnaryOp .USub (.Constant (.int 1) j p4) p3)) p2) p5) (.Name x p6) pos2)) pos9] (sNewRet i fe fc) := by
  refine ⟨(pss_cons (ps_set hN hi hx (pe_callTy call_tuple_of hg hm (by decide +kernel) (pa_cons he.pe pa_nil hst) (by decide) (by decide) hst (by rfl)) hs hf) (pss_one (ps_ret (pe_ifExp hc.pt (pe_back pv1) pv2)))).weak fun D0 σ H ⟨w, ε, S, r, o⟩ => ?_⟩
  unfold sNewRet at o
  refine ⟨w, ε, S, r, (OutS.exp o).imp fun d io1 S1 H1 r1 x1 o1 v dv => ?_⟩
  cases d with
  | list ds =>
    cases dv with
    | @lst a xs _ h1 h2 h3 =>
      obtain ⟨hlt, o1⟩ := OutS.ite o1
      refine ⟨a, xs, rfl, .inl ⟨.of h1, fun l hl => ?_⟩⟩
      have g := Grow.upd (o := .tup xs) hl
      have rg := r1.grow g
      have dl : Dv X.K (upd H1 l (.tup xs)) (w.at io1).mu (.ref l) (.tuple ds) := .tup upd_same (fun z => r1.muh z hl) (Dvs.mono (fun a o _ q _ => g a o q) (fun _ _ z => z) _ _ h3)
      have r2 := rg.keepSh dl i
      have o2 := OutS.anch o1 (g.ext.trans (Ext.clr (w.at io1) _ [i])) rfl
      have sz : σ.length = ε.length := r.le.symm
      refine ⟨_, _, S1, r2, (OutS.exp o2).imp fun t io3 S3 H3 r3 x3 o3 => ?_⟩
      have nio : l ∉ ((w.at io1).clr [i]).io := fun z => r1.muh (.inl (.inl z)) hl
      have h3l : H3 l = some (.tup xs) := x3.kw _ _ nio upd_same nt_tup
      have dv3 : Dvs X.K H3 (((w.at io1).clr [i]).at io3).mu xs ds := by
        have := Dvs.mono (fun a o _ q _ => g a o q) (fun _ _ z => Wd.clr_mu z) _ _ h3 (H' := upd H1 l (.tup xs)) (mu' := ((w.at io1).clr [i]).mu)
        exact Dvs.exx this x3
      have nm : ¬ (((w.at io1).clr [i]).at io3).mu l := fun z => by
        obtain ⟨o, e, mo⟩ := r3.muz z
        rw [h3l] at e; cases e
        rcases mo with ⟨_, e⟩ | ⟨_, e⟩ | ⟨_, e⟩ <;> cases e
      have ill : i < σ.length := by rw [← r.le]; exact hlt
      have sl : (σ.set i (some (V.ref l)))[i]? = some (some (.ref l)) := List.getElem?_set_self ill
      cases t with
      | true =>
        refine ⟨.ref l, sl, l, xs, rfl, .inl ⟨.of h3l, fun q hq => ?_⟩⟩
        have g3 := Grow.upd (o := .tup xs.reverse) hq
        exact o3 _ _ _ _ _ rfl (r3.grow g3) g3.ext ⟨q, xs.reverse, ds.reverse, rfl, rfl, upd_same, fun z => r3.muh z hq, Dvs.mono (fun a o _ q _ => g3 a o q) (fun _ _ z => z) _ _ dv3.rev⟩
      | false =>
        exact ⟨.ref l, sl, o3 _ _ _ _ _ rfl r3 (Ext.refl _ _) ⟨l, xs, ds, rfl, rfl, h3l, nm, dv3⟩⟩
  | _ => exact o1.elim
end Tn
end

section
set_option Elab.async false
set_option linter.all false
set_option maxRecDepth 100000
set_option maxHeartbeats 1000000
/-! y = l.pop() of a list of one's own -/
namespace Tn
open PySem PySem.Spec PyProof.Rows L2
/-- y = l.pop() -/
def sPop (i j : Nat) : XS := fun ε => match ε[i]? with
  | some (.ow (.list xs)) => match xs[xs.length - 1]? with
    | some d => if j < ε.length ∧ i ≠ j then ret (.nx ((ε.set i (.ow (.list xs.dropLast))).set j (.sh d))) else stk
    | none => stk
  | _ => stk
section
variable [TB] {X : Cx} {W : WX} {i j : Nat} {x y : Str} {e : Expr} {fk : XE} {pos py p1 p2 p3 : Pos}
theorem Dvs.dropLast {K : PySem.W.Frag} {H : Hp} {mu : Addr → Prop} : ∀ {us : List V} {ds : List D}, Dvs K H mu us ds → Dvs K H mu us.dropLast ds.dropLast
  | _, _, .nil => .nil
  | _, _, .cons h1 .nil => .nil
  | _, _, .cons h1 (.cons h2 h3) => .cons h1 (Dvs.dropLast (.cons h2 h3))
theorem Dvs.erase {K : PySem.W.Frag} {H : Hp} {mu : Addr → Prop} : ∀ {us : List V} {ds : List D}, Dvs K H mu us ds → ∀ n, Dvs K H mu (us.eraseIdx n) (ds.eraseIdx n)
  | _, _, .nil, n => .nil
  | _, _, .cons h1 h2, 0 => h2
  | _, _, .cons h1 h2, n + 1 => .cons h1 (Dvs.erase h2 n)
/-- a popped value into its slot -/
theorem pop_nx {K : PySem.W.Frag} {mg : Str → Option Value} {w : Wd} {ε : Ev} {S : List D} {σ : L2.St} {H : Hp} {vs : List V} {ds es : List D} {a : Addr} {u : V} {d : D} {D0 : Ends} (r : Rp K w ε S σ H) (e1 : ε[i]? = some (.ow (.list ds))) (ha : w.om i = some a) (hv : Dvs K H w.mu vs es) (du : Dv K H w.mu u d)
    (o : OutS K mg W w H (ret (.nx ((ε.set i (.ow (.list es))).set j (.sh d))) S) D0) : D0.nx (σ.set j (some u)) (upd H a (.lst vs)) := by
  have r1 := r.putOw e1 ha hv
  have x1 : Ext w H w (upd H a (.lst vs)) := Ext.put r (.inr ⟨i, ha⟩) _
  exact OutS.nx o (r1.keepSh (du.ext x1) j) (x1.trans (Ext.clr _ _ _)) rfl
theorem ds_pop (hN : X.N.Nodup) (hi : X.N[j]? = some y) (hy : Loc X.env.scope y) (ho : PE X (.Name x p1) (tVar i)) (hs : swapsWith (.Call (.Attribute (.Name x p1) "pop" p2) [] [] p3) (some (.Name y py)) pos.line X.env = pure false := by rfl) (hbase : attributeBase (.Name x p1) "pop" X.env (eval (.Name x p1) X.env) = eval (.Name x p1) X.env := by rfl)
    (hline : (p2.endLine == p3.line) = true := by rfl)
    (hf : X.fn y = true ∨ X.env.scope.names.lookup y = some .local := by first | exact .inl rfl | exact .inr rfl | assumption) :
    DS X W (.Assign [.Name y py] (.Call (.Attribute (.Name x p1) "pop" p2) [] [] p3) pos) (sPop i j) := by
  refine ⟨(ps_set hN hi hy (pe_bm0 PySem.F.plainAttrs_list PySem.F.slot_list_pop PySem.F.type_list_pop mt_pop ho hbase hline) hs hf).weak fun D0 σ H ⟨w, ε, S, r, o⟩ => ?_⟩
  unfold sPop at o
  cases es : ε[i]? with
  | none => rw [es] at o; exact o.elim
  | some sl =>
    rw [es] at o
    cases sl with
    | ow d0 =>
      obtain ⟨q, h1, a, h2, rfl, us, ds, rfl, h3, h4⟩ := r.sl i _ es
      dsimp only at o
      cases ed : ds[ds.length - 1]? with
      | none => rw [ed] at o; exact o.elim
      | some d =>
        rw [ed] at o
        dsimp only at o
        obtain ⟨hz, o⟩ := o.ite
        obtain ⟨u, eu, du⟩ := h4.get ed
        rw [← h4.len] at eu
        exact ⟨_, h1, .inl ⟨rfl, us, .of h3⟩, a, us, u, rfl, rfl, h3, eu, pop_nx r es h2 h4.dropLast du o⟩
    | _ => exact o.elim
end
end Tn
end

section
set_option Elab.async false
set_option linter.all false
set_option maxRecDepth 100000
set_option maxHeartbeats 4000000
/-! the rules of plain reasoning, one for each piece -/
namespace Tn
open PySem
/-- a state worked out first -/
def cN {α : Type} (f : List α → Prop) (l : List α) (u : Un f f := ⟨⟩) : Prop := f l
@[simp] theorem cN_cons {α : Type} {f : List α → Prop} {x : α} {l : List α} : cN f (x :: l) ↔ f (x :: l) := Iff.rfl
@[simp] theorem cN_nil {α : Type} {f : List α → Prop} : cN f ([] : List α) ↔ f [] := Iff.rfl
section
variable {α : Type} {S : List D} {E : Ex → List D → Prop} {ε : Ev} {i : Nat}
@[simp ↓] theorem wp_xB {Q : D → List D → Prop} : Wp (xB i ε S) Q E ↔ (match ε[i]? with
    | some (.sh d) => Q d S
    | some (.ow d) => Q d S
    | some (.rf n) => (match S[n]? with | some d => Q d S | none => False)
    | _ => False) := by
  unfold xB
  cases ε[i]? with
  | none => exact Iff.rfl
  | some s =>
    cases s with
    | rf n =>
      unfold Wp
      dsimp only
      cases S[n]? <;> exact Iff.rfl
    | _ => exact Iff.rfl
@[simp ↓] theorem wp_xV {Q : D → List D → Prop} : Wp (xV i ε S) Q E ↔ (match ε[i]? with
    | some (.sh d) => Q d S
    | _ => False) := by
  unfold xV
  cases ε[i]? with
  | none => exact Iff.rfl
  | some s => cases s <;> exact Iff.rfl
@[simp ↓] theorem wp_aR {Q : Sl → List D → Prop} : Wp (aR i ε S) Q E ↔ (match ε[i]? with
    | some (.rf n) => Q (.rf n) S
    | _ => False) := by
  unfold aR
  cases ε[i]? with
  | none => exact Iff.rfl
  | some s => cases s <;> exact Iff.rfl
@[simp ↓] theorem wp_chg {Q : SR → List D → Prop} {g : List D → Option (List D)} : Wp (chg i g ε S) Q E ↔ (match ε[i]? with
    | some (.ow (.list xs)) => (match g xs with | some ys => cN (fun ε1 => Q (.nx ε1) S) (ε.set i (.ow (.list ys))) | none => False)
    | some (.rf n) => (match S[n]? with | some (.list xs) => (match g xs with | some ys => cN (fun S1 => Q (.nx ε) S1) (S.set n (.list ys)) | none => False) | _ => False)
    | _ => False) := by
  unfold chg
  cases ε[i]? with
  | none => exact Iff.rfl
  | some s =>
    cases s with
    | rf n =>
      unfold Wp
      dsimp only
      cases S[n]? with
      | none => exact Iff.rfl
      | some d =>
        cases d with
        | list xs => dsimp only; cases g xs <;> exact Iff.rfl
        | _ => exact Iff.rfl
    | ow d =>
      cases d with
      | list xs => dsimp only; cases g xs <;> exact Iff.rfl
      | _ => exact Iff.rfl
    | _ => exact Iff.rfl
theorem wp_ite {c : Prop} [Decidable c] {m m' : M α} {Q : α → List D → Prop} : Wp ((if c then m else m') S) Q E ↔ if c then Wp (m S) Q E else Wp (m' S) Q E := by
  split <;> exact Iff.rfl
/-- a def's end -/
theorem wp_fnEnd {b : M SR} {Q : Sl → List D → Prop} : Wp ((fun S => fnEnd S (b S)) S) Q E ↔ Wp (b S) (fun r S1 => match r with
    | .nx _ => Q (.sh .none) (S1.take S.length)
    | .rt (.sh d) => Q (.sh d) (S1.take S.length)
    | .rt (.ow d) => Q (.ow d) (S1.take S.length)
    | .rt (.lk d) => Q (.lk d) (S1.take S.length)
    | .rt (.rf n) => Q (.rf n) (if n < S.length then S1.take S.length else S1)
    | _ => False) (fun e S1 => E e (S1.take S.length)) := by
  unfold Wp
  dsimp only
  cases b S with
  | none => exact Iff.rfl
  | some r =>
    cases r with
    | ex e S1 => exact Iff.rfl
    | ok a S1 =>
      cases a with
      | rt v => cases v <;> exact Iff.rfl
      | _ => exact Iff.rfl
theorem wp_mkFn {np ns : Nat} {body : XS} {args : List Sl} {Q : Sl → List D → Prop} : Wp (mkFn np ns body args S) Q E ↔ (args.length = np ∧ args.all isArg = true ∧ Wp (body (args ++ List.replicate (ns - np) .un) S) (fun r S1 => match r with
    | .nx _ => Q (.sh .none) (S1.take S.length)
    | .rt (.sh d) => Q (.sh d) (S1.take S.length)
    | .rt (.ow d) => Q (.ow d) (S1.take S.length)
    | .rt (.lk d) => Q (.lk d) (S1.take S.length)
    | .rt (.rf n) => Q (.rf n) (if n < S.length then S1.take S.length else S1)
    | _ => False) (fun e S1 => E e (S1.take S.length))) := by
  by_cases h : (decide (args.length = np) && args.all isArg) = true
  · have e : mkFn np ns body args S = fnEnd S (body (args ++ List.replicate (ns - np) .un) S) := by unfold mkFn; rw [if_pos (by simpa using h)]
    have := wp_fnEnd (b := body (args ++ List.replicate (ns - np) .un)) (S := S) (Q := Q) (E := E)
    have z : Wp (mkFn np ns body args S) Q E ↔ Wp ((fun S => fnEnd S (body (args ++ List.replicate (ns - np) .un) S)) S) Q E := by unfold Wp; rw [e]
    rw [z, this]
    simp only [Bool.and_eq_true, decide_eq_true_eq] at h
    exact ⟨fun q => ⟨h.1, h.2, q⟩, fun q => q.2.2⟩
  · have e : mkFn np ns body args S = none := by unfold mkFn; rw [if_neg (by simpa using h)]
    have z : Wp (mkFn np ns body args S) Q E ↔ False := by unfold Wp; rw [e]
    rw [z]
    simp only [Bool.and_eq_true, decide_eq_true_eq] at h
    exact ⟨fun q => q.elim, fun q => h ⟨q.1, q.2.1⟩⟩
end
/-- one way or the other -/
def cI (t : Bool) (p q : Prop) (u : Un p q := ⟨⟩) : Prop := if t = true then p else q
@[simp ↓] theorem cI_true {p q : Prop} : cI true p q ↔ p := by unfold cI; rw [if_pos rfl]
@[simp ↓] theorem cI_false {p q : Prop} : cI false p q ↔ q := by unfold cI; rw [if_neg Bool.false_ne_true]
section
variable {S : List D} {ε : Ev} {E : Ex → List D → Prop} {Q : D → List D → Prop} {QL : List D → List D → Prop} {QB : Bool → List D → Prop} {QA : Sl → List D → Prop} {QS : List Sl → List D → Prop} {QR : SR → List D → Prop} {QI : Option Int → List D → Prop}
variable {a b c : XE} {f g : XS} {l l2 : XL} {t t2 : XT} {i j k : Nat} {o o2 : D → D → Option D} {o1 : D → Option D} {ol : D → Option (List D)} {d : D} {F : Fn} {as : XAs} {a1 : XA} {tg : Tg}
@[simp ↓] theorem wp_xK : Wp (xK d ε S) Q E ↔ Q d S := Iff.rfl
@[simp ↓] theorem wp_x1 : Wp (x1 o1 a ε S) Q E ↔ Wp (a ε S) (fun x S' => Wp (lft (o1 x) S') Q E) E := wp_bnd
@[simp ↓] theorem wp_x1B : Wp (x1B o1 i ε S) Q E ↔ Wp (xB i ε S) (fun x S' => Wp (lft (o1 x) S') Q E) E := wp_bnd
@[simp ↓] theorem wp_x2 : Wp (x2 o a b ε S) Q E ↔ Wp (a ε S) (fun x S' => Wp (b ε S') (fun y S2 => Wp (lft (o x y) S2) Q E) E) E := by unfold x2; (repeat first | exact Iff.rfl | rw [wp_bnd] | rw [wp_guard] | rw [wp_ite] | refine wp_iff fun _ _ => ?_ | refine and_congr_right fun _ => ?_)
@[simp ↓] theorem wp_x2R : Wp (x2R o a i ε S) Q E ↔ Wp (a ε S) (fun x S' => Wp (xB i ε S') (fun y S2 => Wp (lft (o x y) S2) Q E) E) E := by unfold x2R; (repeat first | exact Iff.rfl | rw [wp_bnd] | rw [wp_guard] | rw [wp_ite] | refine wp_iff fun _ _ => ?_ | refine and_congr_right fun _ => ?_)
@[simp ↓] theorem wp_x2B : Wp (x2B o i j ε S) Q E ↔ Wp (xB i ε S) (fun x S' => Wp (xB j ε S') (fun y S2 => Wp (lft (o x y) S2) Q E) E) E := by unfold x2B; (repeat first | exact Iff.rfl | rw [wp_bnd] | rw [wp_guard] | rw [wp_ite] | refine wp_iff fun _ _ => ?_ | refine and_congr_right fun _ => ?_)
@[simp ↓] theorem wp_x2L : Wp (x2L o i b ε S) Q E ↔ (has ε i = true ∧ Wp (b ε S) (fun y S' => Wp (xB i ε S') (fun x S2 => Wp (lft (o x y) S2) Q E) E) E) := by
  unfold x2L
  by_cases h : has ε i = true
  · rw [if_pos h]; simp only [h, true_and]; rw [wp_bnd]; exact wp_iff fun _ _ => wp_bnd
  · rw [if_neg h]; exact ⟨fun z => z.elim, fun z => h z.1⟩
@[simp ↓] theorem wp_xs0 : Wp (xs0 ε S) QL E ↔ QL [] S := Iff.rfl
@[simp ↓] theorem wp_xsC : Wp (xsC a l ε S) QL E ↔ Wp (a ε S) (fun x S' => Wp (l ε S') (fun xs S2 => QL (x :: xs) S2) E) E := by unfold xsC; (repeat first | exact Iff.rfl | rw [wp_bnd] | rw [wp_guard] | rw [wp_ite] | refine wp_iff fun _ _ => ?_ | refine and_congr_right fun _ => ?_)
theorem wp_guard {α : Type} {p : Prop} [Decidable p] {m : M α} {Q : α → List D → Prop} : Wp ((if p then m else stk) S) Q E ↔ p ∧ Wp (m S) Q E := by
  by_cases h : p
  · rw [if_pos h]; simp only [h, true_and]
  · rw [if_neg h]; simp only [wp_stk, h, false_and]
@[simp ↓] theorem wp_xTup : Wp (xTup l ε S) Q E ↔ Wp (l ε S) (fun ds S' => ds.length ≤ big ∧ Q (.tuple ds) S') E := by unfold xTup; (repeat first | exact Iff.rfl | rw [wp_bnd] | rw [wp_guard] | rw [wp_ite] | refine wp_iff fun _ _ => ?_ | refine and_congr_right fun _ => ?_)
@[simp ↓] theorem wp_xFz : Wp (xFz l ε S) Q E ↔ Wp (l ε S) (fun ds S' => Q (.list ds) S') E := by unfold xFz; (repeat first | exact Iff.rfl | rw [wp_bnd] | rw [wp_guard] | rw [wp_ite] | refine wp_iff fun _ _ => ?_ | refine and_congr_right fun _ => ?_)
@[simp ↓] theorem wp_xTupI : Wp (xTupI l ε S) Q E ↔ Wp (l ε S) (fun ds S' => Q (.tuple ds) S') E := by unfold xTupI; (repeat first | exact Iff.rfl | rw [wp_bnd] | rw [wp_guard] | rw [wp_ite] | refine wp_iff fun _ _ => ?_ | refine and_congr_right fun _ => ?_)
@[simp ↓] theorem wp_xIf : Wp (xIf t a b ε S) Q E ↔ Wp (t ε S) (fun u S' => cI u (Wp (a ε S') Q E) (Wp (b ε S') Q E)) E := by unfold xIf; (repeat first | exact Iff.rfl | rw [wp_bnd] | rw [wp_guard] | rw [wp_ite] | refine wp_iff fun _ _ => ?_ | refine and_congr_right fun _ => ?_)
@[simp ↓] theorem wp_xAnd : Wp (xAnd a b ε S) Q E ↔ Wp (a ε S) (fun x S' => Wp (lft (truthO x) S') (fun u S2 => cI u (Wp (b ε S2) Q E) (Q x S2)) E) E := by unfold xAnd; (repeat first | exact Iff.rfl | rw [wp_bnd] | rw [wp_guard] | rw [wp_ite] | refine wp_iff fun _ _ => ?_ | refine and_congr_right fun _ => ?_)
@[simp ↓] theorem wp_xOr : Wp (xOr a b ε S) Q E ↔ Wp (a ε S) (fun x S' => Wp (lft (truthO x) S') (fun u S2 => cI u (Q x S2) (Wp (b ε S2) Q E)) E) E := by unfold xOr; (repeat first | exact Iff.rfl | rw [wp_bnd] | rw [wp_guard] | rw [wp_ite] | refine wp_iff fun _ _ => ?_ | refine and_congr_right fun _ => ?_)
@[simp ↓] theorem wp_xNot : Wp (xNot t ε S) Q E ↔ Wp (t ε S) (fun u S' => Q (.bool (!u)) S') E := by unfold xNot; (repeat first | exact Iff.rfl | rw [wp_bnd] | rw [wp_guard] | rw [wp_ite] | refine wp_iff fun _ _ => ?_ | refine and_congr_right fun _ => ?_)
@[simp ↓] theorem wp_tV : Wp (tV a ε S) QB E ↔ Wp (a ε S) (fun x S' => Wp (lft (truthO x) S') QB E) E := wp_bnd
@[simp ↓] theorem wp_tNot : Wp (tNot t ε S) QB E ↔ Wp (t ε S) (fun u S' => QB (!u) S') E := by unfold tNot; (repeat first | exact Iff.rfl | rw [wp_bnd] | rw [wp_guard] | rw [wp_ite] | refine wp_iff fun _ _ => ?_ | refine and_congr_right fun _ => ?_)
@[simp ↓] theorem wp_tAnd : Wp (tAnd t t2 ε S) QB E ↔ Wp (t ε S) (fun u S' => cI u (Wp (t2 ε S') QB E) (QB false S')) E := by unfold tAnd; (repeat first | exact Iff.rfl | rw [wp_bnd] | rw [wp_guard] | rw [wp_ite] | refine wp_iff fun _ _ => ?_ | refine and_congr_right fun _ => ?_)
@[simp ↓] theorem wp_tOr : Wp (tOr t t2 ε S) QB E ↔ Wp (t ε S) (fun u S' => cI u (QB true S') (Wp (t2 ε S') QB E)) E := by unfold tOr; (repeat first | exact Iff.rfl | rw [wp_bnd] | rw [wp_guard] | rw [wp_ite] | refine wp_iff fun _ _ => ?_ | refine and_congr_right fun _ => ?_)
@[simp ↓] theorem wp_tYes : Wp (Tn.tYes ε S) QB E ↔ QB true S := Iff.rfl
/-- where a comparison tells True or False -/
def cB (r : Bool → Prop) (d : D) (u : Un r r := ⟨⟩) : Prop := match d with
  | .bool u => r u
  | _ => False
@[simp ↓] theorem cB_bool {r : Bool → Prop} {u : Bool} : cB r (.bool u) ↔ r u := Iff.rfl
@[simp ↓] theorem wp_xChn : Wp (xChn o o2 a b c ε S) Q E ↔ Wp (a ε S) (fun x S1 => Wp (b ε S1) (fun y S2 => Wp (lft (o x y) S2) (fun z S3 => cB (fun u => cI u (Wp (c ε S3) (fun w S4 => Wp (lft (o2 y w) S4) Q E) E) (Q (.bool false) S3)) z) E) E) E := by
  unfold xChn
  rw [wp_bnd]; refine wp_iff fun x S1 => ?_
  rw [wp_bnd]; refine wp_iff fun y S2 => ?_
  rw [wp_bnd]; refine wp_iff fun z S3 => ?_
  cases z with
  | bool u =>
    cases u with
    | true => exact wp_bnd
    | false => exact Iff.rfl
  | _ => exact Iff.rfl
@[simp ↓] theorem wp_tChn : Wp (tChn o o2 a b c ε S) QB E ↔ Wp (a ε S) (fun x S1 => Wp (b ε S1) (fun y S2 => Wp (lft (o x y) S2) (fun z S3 => cB (fun u => cI u (Wp (c ε S3) (fun w S4 => Wp (lft (o2 y w) S4) (fun q S5 => cB (fun v => QB v S5) q) E) E) (QB false S3)) z) E) E) E := by
  unfold tChn
  rw [wp_bnd]; refine wp_iff fun x S1 => ?_
  rw [wp_bnd]; refine wp_iff fun y S2 => ?_
  rw [wp_bnd]; refine wp_iff fun z S3 => ?_
  cases z with
  | bool u =>
    cases u with
    | true => exact wp_bnd.trans (wp_iff fun w S4 => wp_bnd.trans (wp_iff fun q S5 => by cases q <;> exact Iff.rfl))
    | false => exact Iff.rfl
  | _ => exact Iff.rfl
@[simp ↓] theorem wp_iSeq : Wp (iSeq a ε S) QL E ↔ Wp (a ε S) (fun x S' => Wp (lft (seqOf x) S') QL E) E := wp_bnd
@[simp ↓] theorem wp_lDisp : Wp (lDisp l ε S) QL E ↔ Wp (l ε S) (fun ds S' => ds.length ≤ big ∧ QL ds S') E := by unfold lDisp; (repeat first | exact Iff.rfl | rw [wp_bnd] | rw [wp_guard] | rw [wp_ite] | refine wp_iff fun _ _ => ?_ | refine and_congr_right fun _ => ?_)
@[simp ↓] theorem wp_l1 : Wp (l1 ol a ε S) QL E ↔ Wp (a ε S) (fun x S' => Wp (lft (ol x) S') QL E) E := wp_bnd
@[simp ↓] theorem wp_l1B : Wp (l1B ol i ε S) QL E ↔ Wp (xB i ε S) (fun x S' => Wp (lft (ol x) S') QL E) E := wp_bnd
@[simp ↓] theorem wp_aD : Wp (aD a ε S) QA E ↔ Wp (a ε S) (fun x S' => QA (.sh x) S') E := by unfold aD; (repeat first | exact Iff.rfl | rw [wp_bnd] | rw [wp_guard] | rw [wp_ite] | refine wp_iff fun _ _ => ?_ | refine and_congr_right fun _ => ?_)
@[simp ↓] theorem wp_as0 : Wp (as0 ε S) QS E ↔ QS [] S := Iff.rfl
@[simp ↓] theorem wp_asC : Wp (asC a1 as ε S) QS E ↔ Wp (a1 ε S) (fun x S' => Wp (as ε S') (fun xs S2 => QS (x :: xs) S2) E) E := by unfold asC; (repeat first | exact Iff.rfl | rw [wp_bnd] | rw [wp_guard] | rw [wp_ite] | refine wp_iff fun _ _ => ?_ | refine and_congr_right fun _ => ?_)
/-- a call's value -/
def cS (r : D → Prop) (d : Sl) (u : Un r r := ⟨⟩) : Prop := match d with
  | .sh d => r d
  | .lk (.tuple ds) => r (.tuple ds)
  | _ => False
@[simp ↓] theorem cS_sh {r : D → Prop} {d : D} : cS r (.sh d) ↔ r d := Iff.rfl
@[simp ↓] theorem cS_lk {r : D → Prop} {ds : List D} : cS r (.lk (.tuple ds)) ↔ r (.tuple ds) := Iff.rfl
@[simp ↓] theorem wp_xCall : Wp (xCall F as ε S) Q E ↔ Wp (as ε S) (fun vs S1 => Wp (F vs S1) (fun r S2 => cS (fun d => Q d S2) r) E) E := by
  unfold xCall
  rw [wp_bnd]; refine wp_iff fun vs S1 => ?_
  rw [wp_bnd]; refine wp_iff fun r S2 => ?_
  cases r with
  | lk d => cases d <;> exact Iff.rfl
  | _ => exact Iff.rfl
def cA (r : Sl → Prop) (d : Sl) (u : Un r r := ⟨⟩) : Prop := match d with
  | .sh d => r (.sh d)
  | .rf n => r (.rf n)
  | _ => False
@[simp ↓] theorem cA_sh {r : Sl → Prop} {d : D} : cA r (.sh d) ↔ r (.sh d) := Iff.rfl
@[simp ↓] theorem cA_rf {r : Sl → Prop} {n : Nat} : cA r (.rf n) ↔ r (.rf n) := Iff.rfl
@[simp ↓] theorem wp_aCall : Wp (aCall F as ε S) QA E ↔ Wp (as ε S) (fun vs S1 => Wp (F vs S1) (fun r S2 => cA (fun d => QA d S2) r) E) E := by
  unfold aCall
  rw [wp_bnd]; refine wp_iff fun vs S1 => ?_
  rw [wp_bnd]; refine wp_iff fun r S2 => ?_
  cases r <;> exact Iff.rfl
@[simp ↓] theorem wp_aNew : Wp (aNew l ε S) QA E ↔ Wp (l ε S) (fun ds S' => cN (fun S1 => QA (.rf S'.length) S1) (S' ++ [.list ds])) E := by unfold aNew; rw [wp_bnd]; exact Iff.rfl
/-! statements -/
@[simp ↓] theorem wp_sPass : Wp (sPass ε S) QR E ↔ QR (.nx ε) S := Iff.rfl
@[simp ↓] theorem wp_sBreak : Wp (sBreak ε S) QR E ↔ QR (.bk ε) S := Iff.rfl
@[simp ↓] theorem wp_sCont : Wp (sCont ε S) QR E ↔ QR (.ct ε) S := Iff.rfl
@[simp ↓] theorem wp_sRaise {x : Ex} : Wp (sRaise x ε S) QR E ↔ E x S := Iff.rfl
@[simp ↓] theorem wp_sRetN : Wp (sRetN ε S) QR E ↔ QR (.rt (.sh .none)) S := Iff.rfl
/-- behind a statement -/
def cR (n : Ev → Prop) (q : SR → Prop) (d : SR) (u : Un n q := ⟨⟩) : Prop := match d with
  | .nx ε => n ε
  | r => q r
@[simp ↓] theorem cR_nx {n : Ev → Prop} {q : SR → Prop} {ε : Ev} : cR n q (.nx ε) ↔ n ε := Iff.rfl
@[simp ↓] theorem cR_rt {n : Ev → Prop} {q : SR → Prop} {v : Sl} : cR n q (.rt v) ↔ q (.rt v) := Iff.rfl
@[simp ↓] theorem cR_bk {n : Ev → Prop} {q : SR → Prop} {ε : Ev} : cR n q (.bk ε) ↔ q (.bk ε) := Iff.rfl
@[simp ↓] theorem cR_ct {n : Ev → Prop} {q : SR → Prop} {ε : Ev} : cR n q (.ct ε) ↔ q (.ct ε) := Iff.rfl
@[simp ↓] theorem wp_sSeq : Wp (sSeq f g ε S) QR E ↔ Wp (f ε S) (fun r S' => cR (fun ε1 => Wp (g ε1 S') QR E) (fun r => QR r S') r) E := by
  unfold sSeq
  rw [wp_bnd]
  refine ⟨fun h => h.mono (fun r S1 h => ?_) fun _ _ h => h, fun h => h.mono (fun r S1 h => ?_) fun _ _ h => h⟩
  · cases r <;> exact h
  · cases r <;> exact h
@[simp ↓] theorem wp_sExpr : Wp (sExpr a ε S) QR E ↔ Wp (a ε S) (fun _ S' => QR (.nx ε) S') E := by unfold sExpr; (repeat first | exact Iff.rfl | rw [wp_bnd] | rw [wp_guard] | rw [wp_ite] | refine wp_iff fun _ _ => ?_ | refine and_congr_right fun _ => ?_)
@[simp ↓] theorem wp_sSet : Wp (sSet i a ε S) QR E ↔ Wp (a ε S) (fun x S' => cN (fun ε1 => QR (.nx ε1) S') (ε.set i (.sh x))) E := by unfold sSet; (repeat first | exact Iff.rfl | rw [wp_bnd] | rw [wp_guard] | rw [wp_ite] | refine wp_iff fun _ _ => ?_ | refine and_congr_right fun _ => ?_)
@[simp ↓] theorem wp_sOwn : Wp (sOwn i l ε S) QR E ↔ (i < ε.length ∧ Wp (l ε S) (fun ds S' => cN (fun ε1 => QR (.nx ε1) S') (ε.set i (.ow (.list ds)))) E) := by unfold sOwn; (repeat first | exact Iff.rfl | rw [wp_bnd] | rw [wp_guard] | rw [wp_ite] | refine wp_iff fun _ _ => ?_ | refine and_congr_right fun _ => ?_)
@[simp ↓] theorem wp_sAsg : Wp (sAsg i a1 ε S) QR E ↔ Wp (a1 ε S) (fun x S' => cN (fun ε1 => QR (.nx ε1) S') (ε.set i x)) E := by unfold sAsg; (repeat first | exact Iff.rfl | rw [wp_bnd] | rw [wp_guard] | rw [wp_ite] | refine wp_iff fun _ _ => ?_ | refine and_congr_right fun _ => ?_)
@[simp ↓] theorem wp_sIf : Wp (sIf t f g ε S) QR E ↔ Wp (t ε S) (fun u S' => cI u (Wp (f ε S') QR E) (Wp (g ε S') QR E)) E := by unfold sIf; (repeat first | exact Iff.rfl | rw [wp_bnd] | rw [wp_guard] | rw [wp_ite] | refine wp_iff fun _ _ => ?_ | refine and_congr_right fun _ => ?_)
@[simp ↓] theorem wp_sRet : Wp (sRet a ε S) QR E ↔ Wp (a ε S) (fun x S' => QR (.rt (.sh x)) S') E := by unfold sRet; (repeat first | exact Iff.rfl | rw [wp_bnd] | rw [wp_guard] | rw [wp_ite] | refine wp_iff fun _ _ => ?_ | refine and_congr_right fun _ => ?_)
@[simp ↓] theorem wp_sApp : Wp (sApp i a ε S) QR E ↔ (mutL ε i = true ∧ Wp (a ε S) (fun x S' => Wp (chg i (gApp x) ε S') QR E) E) := by unfold sApp; (repeat first | exact Iff.rfl | rw [wp_bnd] | rw [wp_guard] | rw [wp_ite] | refine wp_iff fun _ _ => ?_ | refine and_congr_right fun _ => ?_)
@[simp ↓] theorem wp_sExt : Wp (sExt i a ε S) QR E ↔ (mutL ε i = true ∧ Wp (a ε S) (fun x S' => Wp (chg i (gExt x) ε S') QR E) E) := by unfold sExt; (repeat first | exact Iff.rfl | rw [wp_bnd] | rw [wp_guard] | rw [wp_ite] | refine wp_iff fun _ _ => ?_ | refine and_congr_right fun _ => ?_)
@[simp ↓] theorem wp_sPut : Wp (sPut i a b ε S) QR E ↔ Wp (b ε S) (fun x S1 => mutL ε i = true ∧ Wp (a ε S1) (fun y S2 => Wp (chg i (gPut y x) ε S2) QR E) E) E := by unfold sPut; (repeat first | exact Iff.rfl | rw [wp_bnd] | rw [wp_guard] | rw [wp_ite] | refine wp_iff fun _ _ => ?_ | refine and_congr_right fun _ => ?_)
@[simp ↓] theorem wp_sRetA : Wp (sRetA a1 ε S) QR E ↔ Wp (a1 ε S) (fun v S' => cA (fun v => QR (.rt v) S') v) E := by
  unfold sRetA
  rw [wp_bnd]
  refine ⟨fun h => h.mono (fun r S1 h => ?_) fun _ _ h => h, fun h => h.mono (fun r S1 h => ?_) fun _ _ h => h⟩
  · cases r <;> exact h
  · cases r <;> exact h
@[simp ↓] theorem wp_sFrz : Wp (sFrz i f ε S) QR E ↔ (match ε[i]? with | some (.ow d) => cN (fun ε1 => Wp (f ε1 S) QR E) (ε.set i (.sh d)) | _ => False) := by
  unfold sFrz
  cases ε[i]? with
  | none => exact Iff.rfl
  | some s => cases s <;> exact Iff.rfl
@[simp ↓] theorem wp_sPar2 {p q : Pc} : Wp (sPar2 i j p q ε S) QR E ↔ (i < ε.length ∧ j < ε.length) ∧ Wp (pcE p ε S) (fun x S1 => Wp (pcQ p (pcE q ε) S1) (fun y S2 => cN (fun ε1 => QR (.nx ε1) S2) ((ε.set i x).set j y)) E) E := by unfold sPar2; (repeat first | exact Iff.rfl | rw [wp_bnd] | rw [wp_guard] | rw [wp_ite] | refine wp_iff fun _ _ => ?_ | refine and_congr_right fun _ => ?_)
@[simp ↓] theorem wp_sPar3 : Wp (sPar3 i j k a b c ε S) QR E ↔ Wp (a ε S) (fun x S1 => Wp (b ε S1) (fun y S2 => Wp (c ε S2) (fun z S3 => cN (fun ε1 => QR (.nx ε1) S3) (((ε.set i (.sh x)).set j (.sh y)).set k (.sh z))) E) E) E := by unfold sPar3; (repeat first | exact Iff.rfl | rw [wp_bnd] | rw [wp_guard] | rw [wp_ite] | refine wp_iff fun _ _ => ?_ | refine and_congr_right fun _ => ?_)
@[simp ↓] theorem wp_pcV : Wp (pcE (.v a) ε S) QA E ↔ Wp (a ε S) (fun x S' => QA (.sh x) S') E := by unfold pcE; (repeat first | exact Iff.rfl | rw [wp_bnd] | rw [wp_guard] | rw [wp_ite] | refine wp_iff fun _ _ => ?_ | refine and_congr_right fun _ => ?_)
@[simp ↓] theorem wp_pcN : Wp (pcE (.n l) ε S) QA E ↔ Wp (l ε S) (fun x S' => QA (.ow (.list x)) S') E := by unfold pcE; (repeat first | exact Iff.rfl | rw [wp_bnd] | rw [wp_guard] | rw [wp_ite] | refine wp_iff fun _ _ => ?_ | refine and_congr_right fun _ => ?_)
@[simp ↓] theorem wp_qt {α : Type} {m : M α} {Q : α → List D → Prop} : Wp (qt m S) Q E ↔ Wp (m S) Q fun _ _ => False := by
  unfold Wp qt
  cases m S with
  | none => exact Iff.rfl
  | some r => cases r <;> exact Iff.rfl
@[simp ↓] theorem wp_pcQv {p : XE} {m : M Sl} : Wp (pcQ (.v p) m S) QA E ↔ Wp (m S) QA E := Iff.rfl
@[simp ↓] theorem wp_pcQn {p : XL} {m : M Sl} : Wp (pcQ (.n p) m S) QA E ↔ Wp (m S) QA fun _ _ => False := wp_qt
@[simp ↓] theorem wp_sUnp : Wp (sUnp tg a ε S) QR E ↔ Wp (a ε S) (fun x S' => match bindT tg x ε with | some ε1 => cN (fun ε1 => QR (.nx ε1) S') ε1 | none => False) E := by
  unfold sUnp
  rw [wp_bnd]
  refine wp_iff fun r S1 => ?_
  cases e : bindT tg r ε with
  | none => exact Iff.rfl
  | some ε1 => exact Iff.rfl
@[simp] theorem bt2 {i j : Nat} {x y : D} : bindT (.tup [.nm i, .nm j]) (.tuple [x, y]) ε = some ((ε.set i (.sh x)).set j (.sh y)) := rfl
@[simp] theorem bt3 {i j k : Nat} {x y z : D} : bindT (.tup [.nm i, .nm j, .nm k]) (.tuple [x, y, z]) ε = some (((ε.set i (.sh x)).set j (.sh y)).set k (.sh z)) := rfl
@[simp ↓] theorem wp_iZipS : Wp (iZipS a b ε S) QL E ↔ Wp (a ε S) (fun x S1 => Wp (b ε S1) (fun y S2 => match x, y with | .list xs, .list ys => QL (zipL xs ys) S2 | .tuple xs, .tuple ys => QL (zipL xs ys) S2 | _, _ => False) E) E := by
  unfold iZipS
  rw [wp_bnd]; refine wp_iff fun x S1 => ?_
  rw [wp_bnd]; refine wp_iff fun y S2 => ?_
  cases x <;> cases y <;> exact Iff.rfl
@[simp ↓] theorem wp_sPar3n : Wp (sPar3n i j k a b l ε S) QR E ↔ (i < ε.length ∧ j < ε.length ∧ k < ε.length) ∧ Wp (a ε S) (fun x S1 => Wp (b ε S1) (fun y S2 => Wp (l ε S2) (fun z S3 => cN (fun ε1 => QR (.nx ε1) S3) (((ε.set i (.sh x)).set j (.sh y)).set k (.ow (.list z)))) E) E) E := by
  unfold sPar3n
  rw [wp_guard]; refine and_congr_right fun _ => ?_
  rw [wp_bnd]; refine wp_iff fun x S1 => ?_
  rw [wp_bnd]; refine wp_iff fun y S2 => ?_
  rw [wp_bnd]; exact Iff.rfl
@[simp ↓] theorem wp_xoN : Wp (xo none ε S) QI E ↔ QI none S := Iff.rfl
@[simp ↓] theorem wp_xoS : Wp (xo (some a) ε S) QI E ↔ Wp (a ε S) (fun x S' => match x with | .int i => QI (some i) S' | _ => False) E := by
  show Wp ((bnd (a ε) fun x => match x with | .int i => ret (some i) | _ => stk) S) QI E ↔ _
  rw [wp_bnd]; refine wp_iff fun x S1 => ?_
  cases x <;> exact Iff.rfl
@[simp ↓] theorem wp_xSlT {lo hi : Option XE} : Wp (xSlT a lo hi ε S) Q E ↔ Wp (a ε S) (fun x S1 => Wp (xo lo ε S1) (fun l S2 => Wp (xo hi ε S2) (fun h S3 => Wp (lft (opSlT x l h) S3) Q E) E) E) E := by
  unfold xSlT
  rw [wp_bnd]; refine wp_iff fun x S1 => ?_
  rw [wp_bnd]; refine wp_iff fun y S2 => ?_
  rw [wp_bnd]
theorem wp_iRm {i j : Int} (h : Wp (a ε S) (fun x S1 => Wp (b ε S1) (fun y S2 => Wp (c ε S2) (fun z S3 => x = .int i ∧ y = .int j ∧ z = .int (-1) ∧ (i - j ≤ 16777216 ∧ -1152921504606846976 < i ∧ i < 1152921504606846976 ∧ -1152921504606846976 < j ∧ j < 1152921504606846976) ∧ QL (rngD i (-1) (i - j).toNat) S3) E) E) E) : Wp (iRm a b c ε S) QL E := by
  unfold iRm
  rw [wp_bnd]; refine h.mono (fun x S1 h => ?_) fun _ _ h => h
  rw [wp_bnd]; refine h.mono (fun y S2 h => ?_) fun _ _ h => h
  rw [wp_bnd]; refine h.mono (fun z S3 h => ?_) fun _ _ h => h
  obtain ⟨rfl, rfl, rfl, ⟨h1, h2, h3, h4, h5⟩, h6⟩ := h
  show Wp ((if (decide (i - j ≤ (big : Int)) && decide (-(2 ^ 60) < i) && decide (i < 2 ^ 60) && decide (-(2 ^ 60) < j) && decide (j < 2 ^ 60) && decide ((-1 : Int) = -1)) = true then ret (rngD i (-1) (i - j).toNat) else stk) S3) QL E
  rw [wp_guard, wp_ret]
  simp only [Bool.and_eq_true, decide_eq_true_eq]
  exact ⟨⟨⟨⟨⟨⟨h1, h2⟩, h3⟩, h4⟩, h5⟩, trivial⟩, h6⟩
@[simp] theorem bg0 : (0 ≤ big) = True := eq_true (by decide)
@[simp] theorem bg1 : (1 ≤ big) = True := eq_true (by decide)
@[simp] theorem bg2 : (2 ≤ big) = True := eq_true (by decide)
@[simp] theorem bg3 : (3 ≤ big) = True := eq_true (by decide)
@[simp] theorem bg4 : (4 ≤ big) = True := eq_true (by decide)
@[simp] theorem bg5 : (5 ≤ big) = True := eq_true (by decide)
@[simp] theorem bg6 : (6 ≤ big) = True := eq_true (by decide)
@[simp] theorem bg7 : (7 ≤ big) = True := eq_true (by decide)
@[simp] theorem bg8 : (8 ≤ big) = True := eq_true (by decide)
@[simp] theorem bg9 : (9 ≤ big) = True := eq_true (by decide)
@[simp] theorem bg10 : (10 ≤ big) = True := eq_true (by decide)
@[simp] theorem bg11 : (11 ≤ big) = True := eq_true (by decide)
@[simp] theorem bg12 : (12 ≤ big) = True := eq_true (by decide)
@[simp] theorem bg13 : (13 ≤ big) = True := eq_true (by decide)
@[simp] theorem bg14 : (14 ≤ big) = True := eq_true (by decide)
@[simp] theorem bg15 : (15 ≤ big) = True := eq_true (by decide)
@[simp] theorem bg16 : (16 ≤ big) = True := eq_true (by decide)
@[simp] theorem bg17 : (17 ≤ big) = True := eq_true (by decide)
@[simp] theorem bg18 : (18 ≤ big) = True := eq_true (by decide)
@[simp] theorem bg19 : (19 ≤ big) = True := eq_true (by decide)
@[simp] theorem bg20 : (20 ≤ big) = True := eq_true (by decide)
@[simp] theorem bg21 : (21 ≤ big) = True := eq_true (by decide)
@[simp] theorem bg22 : (22 ≤ big) = True := eq_true (by decide)
@[simp] theorem bg23 : (23 ≤ big) = True := eq_true (by decide)
@[simp] theorem bg24 : (24 ≤ big) = True := eq_true (by decide)
@[simp] theorem bg25 : (25 ≤ big) = True := eq_true (by decide)
end
/-! dicts of one's own -/
section
variable {S : List D} {E : Ex → List D → Prop} {ε : Ev} {i : Nat} {a b : XE} {f : XK'} {QE : D → List D → Prop} {QL : List D → List D → Prop} {QK : List (D × D) → List D → Prop} {QR : SR → List D → Prop} {k d : D} {ds : List (D × D)}
@[simp ↓] theorem wp_kSl : Wp (kSl i ε S) QK E ↔ (match ε[i]? with
    | some (.lk (.dict ds)) => QK ds S
    | _ => False) := by
  unfold kSl
  cases ε[i]? with
  | none => exact Iff.rfl
  | some s =>
    cases s with
    | lk d => cases d <;> exact Iff.rfl
    | _ => exact Iff.rfl
@[simp ↓] theorem wp_kNew : Wp (kNew ε S) QK E ↔ QK [] S := Iff.rfl
@[simp ↓] theorem wp_kOf : Wp (kOf a ε S) QK E ↔ Wp (a ε S) (fun x S' => (match x with | .list ds => Wp (lft ((prsD ds).map mkD) S') QK E | _ => False)) E := by
  unfold kOf
  rw [wp_bnd]
  refine wp_iff fun x S1 => ?_
  cases x <;> exact Iff.rfl
@[simp ↓] theorem wp_lSK : Wp (lSK f ε S) QL E ↔ Wp (f ε S) (fun ds S' => Wp (lft (gSK ds) S') QL E) E := by unfold lSK; (repeat first | exact Iff.rfl | rw [wp_bnd] | rw [wp_guard] | rw [wp_ite] | refine wp_iff fun _ _ => ?_ | refine and_congr_right fun _ => ?_)
@[simp ↓] theorem wp_xLenK : Wp (xLenK i ε S) QE E ↔ Wp (kSl i ε S) (fun ds S' => QE (.int ds.length) S') E := by unfold xLenK; (repeat first | exact Iff.rfl | rw [wp_bnd] | rw [wp_guard] | rw [wp_ite] | refine wp_iff fun _ _ => ?_ | refine and_congr_right fun _ => ?_)
@[simp ↓] theorem wp_xGetK : Wp (xGetK i a ε S) QE E ↔ Wp (kSl i ε S) (fun ds S' => Wp (a ε S') (fun k S2 => Wp (lft (if (keyD k).isSome = true then getK ds k else none) S2) QE E) E) E := by unfold xGetK; (repeat first | exact Iff.rfl | rw [wp_bnd] | rw [wp_guard] | rw [wp_ite] | refine wp_iff fun _ _ => ?_ | refine and_congr_right fun _ => ?_)
@[simp ↓] theorem wp_xInK : Wp (xInK a i ε S) QE E ↔ Wp (a ε S) (fun k S' => Wp (kSl i ε S') (fun ds S2 => Wp (lft (if (keyD k).isSome = true then some (.bool (getK ds k).isSome) else none) S2) QE E) E) E := by unfold xInK; (repeat first | exact Iff.rfl | rw [wp_bnd] | rw [wp_guard] | rw [wp_ite] | refine wp_iff fun _ _ => ?_ | refine and_congr_right fun _ => ?_)
@[simp ↓] theorem wp_xNinK : Wp (xNinK a i ε S) QE E ↔ Wp (a ε S) (fun k S' => Wp (kSl i ε S') (fun ds S2 => Wp (lft (if (keyD k).isSome = true then some (.bool (!(getK ds k).isSome)) else none) S2) QE E) E) E := by unfold xNinK; (repeat first | exact Iff.rfl | rw [wp_bnd] | rw [wp_guard] | rw [wp_ite] | refine wp_iff fun _ _ => ?_ | refine and_congr_right fun _ => ?_)
@[simp ↓] theorem wp_putS : Wp (putS i ds k d ε S) QR E ↔ (((keyD k).isSome = true ∧ ds.length < big) ∧ cN (fun ε1 => QR (.nx ε1) S) (ε.set i (.lk (.dict (putD ds k d))))) := by unfold putS; rw [wp_guard]; exact Iff.rfl
@[simp ↓] theorem wp_sPutK : Wp (sPutK i a b ε S) QR E ↔ Wp (b ε S) (fun d S' => Wp (kSl i ε S') (fun ds S2 => Wp (a ε S2) (fun k S3 => Wp (putS i ds k d ε S3) QR E) E) E) E := by unfold sPutK; (repeat first | exact Iff.rfl | rw [wp_bnd] | rw [wp_guard] | rw [wp_ite] | refine wp_iff fun _ _ => ?_ | refine and_congr_right fun _ => ?_)
@[simp ↓] theorem wp_sAugK {g : D → D → Option D} : Wp (sAugK i g a b ε S) QR E ↔ Wp (kSl i ε S) (fun ds S' => Wp (a ε S') (fun k S2 => Wp (lft (if (keyD k).isSome = true then getK ds k else none) S2) (fun x S3 => Wp (b ε S3) (fun y S4 => Wp (lft (g x y) S4) (fun z S5 => Wp (putS i ds k z ε S5) QR E) E) E) E) E) E := by unfold sAugK; (repeat first | exact Iff.rfl | rw [wp_bnd] | rw [wp_guard] | rw [wp_ite] | refine wp_iff fun _ _ => ?_ | refine and_congr_right fun _ => ?_)
@[simp ↓] theorem wp_sDct : Wp (sDct i f ε S) QR E ↔ (i < ε.length ∧ Wp (f ε S) (fun ds S' => cN (fun ε1 => QR (.nx ε1) S') (ε.set i (.lk (.dict ds)))) E) := by unfold sDct; (repeat first | exact Iff.rfl | rw [wp_bnd] | rw [wp_guard] | rw [wp_ite] | refine wp_iff fun _ _ => ?_ | refine and_congr_right fun _ => ?_)
@[simp] theorem keyD_int {n : Int} : keyD (.int n) = some (.inl n) := rfl
@[simp ↓] theorem wp_iEnS : Wp (iEnS a ε S) QL E ↔ Wp (a ε S) (fun x S' => (match x with | .list ds => QL (enumD 0 ds) S' | .tuple ds => QL (enumD 0 ds) S' | _ => False)) E := by
  unfold iEnS
  rw [wp_bnd]
  refine wp_iff fun x S1 => ?_
  cases x <;> exact Iff.rfl
@[simp] theorem opIsB_bool {x y : Bool} : opIsB (.bool x) (.bool y) = some (.bool (decide (x = y))) := rfl
@[simp] theorem opIsB_none {y : Bool} : opIsB .none (.bool y) = some (.bool false) := rfl
@[simp] theorem opIsB_int {x : Int} {y : Bool} : opIsB (.int x) (.bool y) = some (.bool false) := rfl
@[simp] theorem opIsB_str {x : Str} {y : Bool} : opIsB (.str x) (.bool y) = some (.bool false) := rfl
@[simp] theorem opIsB_tuple {x : List D} {y : Bool} : opIsB (.tuple x) (.bool y) = some (.bool false) := rfl
@[simp] theorem opIsB_list {x : List D} {y : Bool} : opIsB (.list x) (.bool y) = some (.bool false) := rfl
@[simp] theorem opNotB_bool {x y : Bool} : opNotB (.bool x) (.bool y) = some (.bool (!decide (x = y))) := rfl
@[simp] theorem opNotB_none {y : Bool} : opNotB .none (.bool y) = some (.bool true) := rfl
@[simp] theorem opNotB_int {x : Int} {y : Bool} : opNotB (.int x) (.bool y) = some (.bool true) := rfl
@[simp] theorem opNotB_str {x : Str} {y : Bool} : opNotB (.str x) (.bool y) = some (.bool true) := rfl
@[simp] theorem opNotB_tuple {x : List D} {y : Bool} : opNotB (.tuple x) (.bool y) = some (.bool true) := rfl
@[simp ↓] theorem wp_sIns : Wp (sIns i a b ε S) QR E ↔ (mutL ε i = true ∧ Wp (a ε S) (fun k S' => Wp (b ε S') (fun d S2 => Wp (chg i (gIns k d) ε S2) QR E) E) E) := by unfold sIns; (repeat first | exact Iff.rfl | rw [wp_bnd] | rw [wp_guard] | rw [wp_ite] | refine wp_iff fun _ _ => ?_ | refine and_congr_right fun _ => ?_)
@[simp ↓] theorem wp_sAugI {g : D → D → Option D} : Wp (sAugI i g a b ε S) QR E ↔ (match ε[i]? with
    | some (.ow (.list xs)) => Wp (a ε S) (fun k S' => Wp (lft (opIx (.list xs) k) S') (fun x S2 => Wp (b ε S2) (fun y S3 => Wp (lft (g x y) S3) (fun z S4 => Wp (chg i (gPut k z) ε S4) QR E) E) E) E) E
    | _ => False) := by
  unfold sAugI
  cases ε[i]? with
  | none => exact Iff.rfl
  | some s =>
    cases s with
    | ow d =>
      cases d with
      | list xs => dsimp only; (repeat first | exact Iff.rfl | rw [wp_bnd] | rw [wp_guard] | rw [wp_ite] | refine wp_iff fun _ _ => ?_ | refine and_congr_right fun _ => ?_)
      | _ => exact Iff.rfl
    | _ => exact Iff.rfl
@[simp ↓] theorem wp_xIndex : Wp (xIndex a b ε S) QE E ↔ Wp (a ε S) (fun l S' => (match l with | .list ds => Wp (b ε S') (fun k S2 => Wp (lft (opIndexL (.list ds) k) S2) QE E) E | _ => False)) E := by
  unfold xIndex
  rw [wp_bnd]
  refine wp_iff fun x S1 => ?_
  cases x with
  | list ds => dsimp only; (repeat first | exact Iff.rfl | rw [wp_bnd] | rw [wp_guard] | rw [wp_ite] | refine wp_iff fun _ _ => ?_ | refine and_congr_right fun _ => ?_)
  | _ => exact Iff.rfl
@[simp ↓] theorem wp_xLenKd : Wp (xLenKd f ε S) QE E ↔ Wp (f ε S) (fun ds S' => QE (.int ds.length) S') E := by unfold xLenKd; (repeat first | exact Iff.rfl | rw [wp_bnd] | rw [wp_guard] | rw [wp_ite] | refine wp_iff fun _ _ => ?_ | refine and_congr_right fun _ => ?_)
@[simp] theorem opSubB_bool {x y : Bool} : opSubB (.bool x) (.bool y) = some (.int ((if x = true then 1 else 0) - (if y = true then 1 else 0))) := rfl
@[simp ↓] theorem wp_sPars {is : List Nat} {ps : List Pq} : Wp (sPars is ps ε S) QR E ↔ ((is.all fun i => decide (i < ε.length)) = true ∧ Wp (pqs ps ε S) (fun vs S' => cN (fun ε1 => QR (.nx ε1) S') (setSl is vs ε)) E) := by unfold sPars; (repeat first | exact Iff.rfl | rw [wp_bnd] | rw [wp_guard] | rw [wp_ite] | refine wp_iff fun _ _ => ?_ | refine and_congr_right fun _ => ?_)
section
variable {QS : List Sl → List D → Prop} {ps : List Pq} {l : XL} {is : List Nat} {v : Sl} {vs : List Sl}
@[simp ↓] theorem wp_pq0 : Wp (pqs [] ε S) QS E ↔ QS [] S := wp_pqs0
@[simp ↓] theorem wp_pqV : Wp (pqs (.v a :: ps) ε S) QS E ↔ Wp (a ε S) (fun x S' => Wp (pqs ps ε S') (fun vs S2 => QS (.sh x :: vs) S2) E) E := wp_pqsV
@[simp ↓] theorem wp_pqN : Wp (pqs (.n l :: ps) ε S) QS E ↔ Wp (l ε S) (fun x S' => Wp (pqs ps ε S') (fun vs S2 => QS (.ow (.list x) :: vs) S2) fun _ _ => False) E := wp_pqsN
@[simp ↓] theorem wp_pqK : Wp (pqs (.k f :: ps) ε S) QS E ↔ Wp (f ε S) (fun x S' => Wp (pqs ps ε S') (fun vs S2 => QS (.lk (.dict x) :: vs) S2) fun _ _ => False) E := wp_pqsK
@[simp] theorem setSl1 : setSl (i :: is) (v :: vs) ε = setSl is vs (ε.set i v) := rfl
@[simp] theorem setSl0 : setSl [] [] ε = ε := rfl
end
@[simp ↓] theorem wp_sAug {g : D → D → Option D} : Wp (sAug i g a ε S) QR E ↔ (match ε[i]? with
    | some (.sh x) => Wp (a ε S) (fun y S' => Wp (lft (g x y) S') (fun z S2 => cN (fun ε1 => QR (.nx ε1) S2) (ε.set i (.sh z))) E) E
    | _ => False) := by
  unfold sAug
  cases ε[i]? with
  | none => exact Iff.rfl
  | some s =>
    cases s with
    | sh d => dsimp only; (repeat first | exact Iff.rfl | rw [wp_bnd] | refine wp_iff fun _ _ => ?_)
    | _ => exact Iff.rfl
end
/-! new tuples, tuple keys, locked dicts -/
def cTu (r : List D → Prop) (d : Sl) (u : Un r r := ⟨⟩) : Prop := match d with
  | .lk (.tuple ds) => r ds
  | _ => False
@[simp ↓] theorem cTu_lk {r : List D → Prop} {ds : List D} : cTu r (.lk (.tuple ds)) ↔ r ds := Iff.rfl
section
variable {S : List D} {E : Ex → List D → Prop} {ε : Ev} {i j : Nat} {a b : XE} {f : XS} {l : XL} {as : XAs} {F : Fn} {QE : D → List D → Prop} {QL : List D → List D → Prop} {QK : List (D × D) → List D → Prop} {QR : SR → List D → Prop}
@[simp ↓] theorem wp_sRetT : Wp (sRetT l ε S) QR E ↔ Wp (l ε S) (fun ds S' => ds.length ≤ big ∧ QR (.rt (.lk (.tuple ds))) S') E := by unfold sRetT; (repeat first | exact Iff.rfl | rw [wp_bnd] | rw [wp_guard] | rw [wp_ite] | refine wp_iff fun _ _ => ?_ | refine and_congr_right fun _ => ?_)
@[simp ↓] theorem wp_tCall : Wp (tCall F as ε S) QL E ↔ Wp (as ε S) (fun vs S1 => Wp (F vs S1) (fun r S2 => cTu (fun d => QL d S2) r) E) E := by
  unfold tCall
  rw [wp_bnd]; refine wp_iff fun vs S1 => ?_
  rw [wp_bnd]; refine wp_iff fun r S2 => ?_
  cases r with
  | lk d => cases d <;> exact Iff.rfl
  | _ => exact Iff.rfl
/-- what stands in a slot of tuple keys -/
def dT? : Option Sl → Option (List (D × D))
  | some (.lk (.tuple [.dict ds])) => some ds
  | _ => none
@[simp] theorem dTq_lk {ds : List (D × D)} : dT? (some (.lk (.tuple [.dict ds]))) = some ds := rfl
@[simp ↓] theorem wp_kSlT : Wp (kSlT i ε S) QK E ↔ (match dT? ε[i]? with
    | some ds => QK ds S
    | _ => False) := by
  unfold kSlT
  cases ε[i]? with
  | none => exact Iff.rfl
  | some s =>
    cases s with
    | lk d =>
      cases d with
      | tuple xs =>
        cases xs with
        | nil => exact Iff.rfl
        | cons x xs =>
          cases xs with
          | nil => cases x <;> exact Iff.rfl
          | cons y ys => cases x <;> exact Iff.rfl
      | _ => exact Iff.rfl
    | _ => exact Iff.rfl
@[simp ↓] theorem wp_sDctT : Wp (sDctT i ε S) QR E ↔ (i < ε.length ∧ cN (fun ε1 => QR (.nx ε1) S) (ε.set i (.lk (.tuple [.dict []])))) := by unfold sDctT; rw [wp_guard]; exact Iff.rfl
@[simp ↓] theorem wp_lSKT : Wp (lSKT i ε S) QL E ↔ Wp (kSlT i ε S) (fun ds S' => Wp (lft (gSortKT ds) S') QL E) E := by unfold lSKT; (repeat first | exact Iff.rfl | rw [wp_bnd] | rw [wp_guard] | rw [wp_ite] | refine wp_iff fun _ _ => ?_ | refine and_congr_right fun _ => ?_)
@[simp ↓] theorem wp_sNewRet {x : XE} {c : XT} : Wp (sNewRet i x c ε S) QR E ↔ Wp (x ε S) (fun d S1 => (match d with
    | .list ds => i < ε.length ∧ cN (fun ε1 => Wp (c ε1 S1) (fun t S2 => QR (.rt (.lk (.tuple (if t = true then ds.reverse else ds)))) S2) E) (ε.set i (.sh (.tuple ds)))
    | _ => False)) E := by
  unfold sNewRet
  rw [wp_bnd]; refine wp_iff fun d S1 => ?_
  cases d with
  | list ds =>
    dsimp only
    by_cases h : i < ε.length
    · rw [if_pos h]
      refine Iff.trans ?_ (show _ ↔ (i < ε.length ∧ Wp (c (ε.set i (.sh (.tuple ds))) S1) (fun t S2 => QR (.rt (.lk (.tuple (if t = true then ds.reverse else ds)))) S2) E) from ⟨fun z => ⟨h, z⟩, fun z => z.2⟩)
      rw [wp_bnd]; exact Iff.rfl
    · rw [if_neg h]
      exact ⟨fun z => z.elim, fun z => (h z.1).elim⟩
  | _ => exact Iff.rfl
@[simp ↓] theorem wp_sPop : Wp (sPop i j ε S) QR E ↔ (match ε[i]? with
    | some (.ow (.list xs)) => (match xs[xs.length - 1]? with
      | some d => (j < ε.length ∧ i ≠ j) ∧ cN (fun ε1 => QR (.nx ε1) S) ((ε.set i (.ow (.list xs.dropLast))).set j (.sh d))
      | none => False)
    | _ => False) := by
  unfold sPop
  cases ε[i]? with
  | none => exact Iff.rfl
  | some s =>
    cases s with
    | ow d =>
      cases d with
      | list xs =>
        dsimp only
        cases xs[xs.length - 1]? with
        | none => exact Iff.rfl
        | some d => dsimp only; rw [wp_guard]; exact Iff.rfl
      | _ => exact Iff.rfl
    | _ => exact Iff.rfl
@[simp ↓] theorem wp_sPutT : Wp (sPutT i F as b ε S) QR E ↔ Wp (b ε S) (fun d S' => Wp (kSlT i ε S') (fun ds S2 => Wp (tCall F as ε S2) (fun ks S3 => ((keysD ks).isSome = true ∧ ds.length < big) ∧ cN (fun ε1 => QR (.nx ε1) S3) (ε.set i (.lk (.tuple [.dict (putT ds (.tuple ks) d)])))) E) E) E := by unfold sPutT; (repeat first | exact Iff.rfl | rw [wp_bnd] | rw [wp_guard] | rw [wp_ite] | refine wp_iff fun _ _ => ?_ | refine and_congr_right fun _ => ?_)
@[simp ↓] theorem wp_sLockK : Wp (sLockK i f ε S) QR E ↔ (match ε[i]? with
    | some (.lk d) => cN (fun ε1 => Wp (f ε1 S) QR E) (ε.set i (.sc d))
    | _ => False) := by
  unfold sLockK
  cases ε[i]? with
  | none => exact Iff.rfl
  | some s => cases s <;> exact Iff.rfl
@[simp ↓] theorem wp_sLkMv : Wp (sLkMv i j ε S) QR E ↔ (match ε[i]? with
    | some (.lk d) => j < ε.length ∧ cN (fun ε1 => QR (.nx ε1) S) ((ε.set i (.sc d)).set j (.sc d))
    | _ => False) := by
  unfold sLkMv
  cases ε[i]? with
  | none => exact Iff.rfl
  | some s =>
    cases s with
    | lk d => dsimp only; rw [wp_guard]; exact Iff.rfl
    | _ => exact Iff.rfl
def dS? : Option Sl → Option (List (D × D))
  | some (.sc (.dict ds)) => some ds
  | some (.sc (.tuple [.dict ds])) => some ds
  | _ => none
@[simp] theorem dSq_k {ds : List (D × D)} : dS? (some (.sc (.dict ds))) = some ds := rfl
@[simp] theorem dSq_t {ds : List (D × D)} : dS? (some (.sc (.tuple [.dict ds]))) = some ds := rfl
@[simp ↓] theorem wp_iKeyS : Wp (iKeyS i ε S) QL E ↔ (match dS? ε[i]? with
    | some ds => QL (ds.map (·.1)) S
    | _ => False) := by
  unfold iKeyS
  cases ε[i]? with
  | none => exact Iff.rfl
  | some s =>
    cases s with
    | sc d =>
      cases d with
      | tuple xs =>
        cases xs with
        | nil => exact Iff.rfl
        | cons x xs =>
          cases xs with
          | nil => cases x <;> exact Iff.rfl
          | cons y ys => cases x <;> exact Iff.rfl
      | _ => exact Iff.rfl
    | _ => exact Iff.rfl
@[simp ↓] theorem wp_iItmS : Wp (iItmS i ε S) QL E ↔ (match ε[i]? with
    | some (.sc (.dict ds)) => QL (ds.map fun e => .tuple [e.1, e.2]) S
    | _ => False) := by
  unfold iItmS
  cases ε[i]? with
  | none => exact Iff.rfl
  | some s =>
    cases s with
    | sc d => cases d <;> exact Iff.rfl
    | _ => exact Iff.rfl
@[simp ↓] theorem wp_xGetS : Wp (xGetS i a ε S) QE E ↔ (match ε[i]? with
    | some (.sc (.dict ds)) => Wp (a ε S) (fun k S2 => Wp (lft (if (keyD k).isSome = true then getK ds k else none) S2) QE E) E
    | _ => False) := by
  unfold xGetS
  cases ε[i]? with
  | none => exact Iff.rfl
  | some s =>
    cases s with
    | sc d =>
      cases d with
      | dict ds => dsimp only; rw [wp_bnd]
      | _ => exact Iff.rfl
    | _ => exact Iff.rfl
end
@[simp ↓] theorem wp_xLkL {S : List D} {E : Ex → List D → Prop} {ε : Ev} {i : Nat} {f : XE} {Q : D → List D → Prop} : Wp (xLkL i f ε S) Q E ↔ (match ε[i]? with
    | some (.ow (.list ds)) => cN (fun ε1 => Wp (f ε1 S) Q fun _ _ => False) (ε.set i (.sc (.list ds)))
    | _ => False) := by
  unfold xLkL
  cases ε[i]? with
  | none => exact Iff.rfl
  | some s =>
    cases s with
    | ow d =>
      cases d with
      | list ds => dsimp only; rw [wp_qt]; exact Iff.rfl
      | _ => exact Iff.rfl
    | _ => exact Iff.rfl
section
variable {S : List D} {E : Ex → List D → Prop} {ε : Ev} {i : Nat} {e k : XE} {d : D} {ds : List D} {t : Tx} {ts : List Tx} {QR : SR → List D → Prop}
@[simp ↓] theorem wp_stXn : Wp (stX (.nm i) d ε S) QR E ↔ cN (fun ε1 => QR (.nx ε1) S) (ε.set i (.sh d)) := Iff.rfl
@[simp ↓] theorem wp_stXs : Wp (stX (.sub i k) d ε S) QR E ↔ (mutL ε i = true ∧ Wp (k ε S) (fun kd S' => Wp (chg i (gPut kd d) ε S') QR E) E) := by
  unfold stX
  dsimp only
  rw [wp_guard]; refine and_congr_right fun _ => ?_
  exact wp_bnd
@[simp ↓] theorem wp_sXs0 : Wp (stXs [] [] ε S) QR E ↔ QR (.nx ε) S := Iff.rfl
@[simp ↓] theorem wp_sXsC : Wp (stXs (t :: ts) (d :: ds) ε S) QR E ↔ Wp (stX t d ε S) (fun r S' => cR (fun ε1 => Wp (stXs ts ds ε1 S') QR E) (fun _ => False) r) E := by
  unfold stXs
  rw [wp_bnd]
  refine wp_iff fun r S1 => ?_
  cases r <;> exact Iff.rfl
@[simp ↓] theorem wp_sTgt : Wp (sTgt ts e ε S) QR E ↔ Wp (e ε S) (fun x S' => (match x with | .tuple ds => ds.length = ts.length ∧ Wp (stXs ts ds ε S') QR E | _ => False)) E := by
  unfold sTgt
  rw [wp_bnd]
  refine wp_iff fun x S1 => ?_
  cases x with
  | tuple ds => dsimp only; rw [wp_guard]
  | _ => exact Iff.rfl
end
end Tn
end

section
set_option linter.all false
/-! the rules in bundles -/
namespace Tn
open PySem PyProof.Rows
def R1 := And.intro (@wp_xB) (And.intro (@wp_xV) (And.intro (@wp_aR) (And.intro (@wp_chg) (And.intro (@cI_true) (And.intro (@cI_false) (And.intro (@wp_xK) (And.intro (@wp_x1) (And.intro (@wp_x1B) (And.intro (@wp_x2) (And.intro (@wp_x2R) (And.intro (@wp_x2B) (And.intro (@wp_x2L) (And.intro (@wp_xs0) (And.intro (@wp_xsC) (And.intro (@wp_xTup) (And.intro (@wp_xFz) (And.intro (@wp_xTupI) (And.intro (@wp_xIf) (And.intro (@wp_xNot) (And.intro (@wp_tV) (And.intro (@wp_tNot) (And.intro (@wp_tAnd) (And.intro (@wp_tOr) (And.intro (@wp_tYes) (And.intro (@cB_bool) (And.intro (@wp_xChn) (And.intro (@wp_tChn) (And.intro (@wp_iSeq) (And.intro (@wp_lDisp) (And.intro (@wp_l1) (And.intro (@wp_l1B) (And.intro (@wp_aD) (And.intro (@wp_as0) (And.intro (@wp_asC) (And.intro (@cS_sh) (And.intro (@cS_lk) (And.intro (@wp_xCall) (And.intro (@cA_sh) (And.intro (@cA_rf) (And.intro (@wp_aCall) (And.intro (@wp_aNew) (And.intro (@wp_sPass) (And.intro (@wp_sBreak) (And.intro (@wp_sCont) (And.intro (@wp_sRaise) (And.intro (@wp_sRetN) (And.intro (@cR_nx) (And.intro (@cR_rt) (And.intro (@cR_bk) (And.intro (@cR_ct) (And.intro (@wp_sSeq) (And.intro (@wp_sExpr) (And.intro (@wp_sSet) (And.intro (@wp_sOwn) (And.intro (@wp_sAsg) (And.intro (@wp_sRet) (And.intro (@wp_sApp) (And.intro (@wp_sExt) (And.intro (@wp_sPut) (And.intro (@wp_sRetA) (And.intro (@wp_sFrz) (And.intro (@wp_sPar2) (And.intro (@wp_sPar3) (And.intro (@wp_pcV) (And.intro (@wp_pcN) (And.intro (@wp_qt) (And.intro (@wp_pcQv) (And.intro (@wp_pcQn) (And.intro (@wp_sUnp) (And.intro (@wp_iZipS) (And.intro (@wp_sPar3n) (And.intro (@wp_xoN) (And.intro (@wp_xoS) (And.intro (@wp_xSlT) (And.intro (@wp_kSl) (And.intro (@wp_kNew) (And.intro (@wp_kOf) (And.intro (@wp_lSK) (And.intro (@wp_xLenK) (And.intro (@wp_xGetK) (And.intro (@wp_xInK) (And.intro (@wp_xNinK) (And.intro (@wp_putS) (And.intro (@wp_sPutK) (And.intro (@wp_sAugK) (And.intro (@wp_sDct) (And.intro (@wp_iEnS) (And.intro (@wp_sIns) (And.intro (@wp_sAugI) (And.intro (@wp_xIndex) (And.intro (@wp_xLenKd) (And.intro (@wp_sPars) (And.intro (@wp_pq0) (And.intro (@wp_pqV) (And.intro (@wp_pqN) (And.intro (@wp_pqK) (And.intro (@wp_sAug) (And.intro (@cTu_lk) (And.intro (@wp_sRetT) (And.intro (@wp_tCall) (And.intro (@wp_kSlT) (And.intro (@wp_sDctT) (And.intro (@wp_lSKT) (And.intro (@wp_sNewRet) (And.intro (@wp_sPop) (And.intro (@wp_sPutT) (And.intro (@wp_sLockK) (And.intro (@wp_sLkMv) (And.intro (@wp_iKeyS) (And.intro (@wp_iItmS) (And.intro (@wp_xGetS) (And.intro (@wp_xLkL) (And.intro (@wp_stXn) (And.intro (@wp_stXs) (And.intro (@wp_sXs0) (And.intro (@wp_sXsC) (And.intro (@wp_sTgt) (And.intro (@wp_ok) (And.intro (@wp_ex) (And.intro (@wp_no) (And.intro (@wp_ret) (And.intro (@wp_rse) (@wp_lft)))))))))))))))))))))))))))))))))))))))))))))))))))))))))))))))))))))))))))))))))))))))))))))))))))))))))))))))))))))))))))
def R2 := And.intro (@cN_cons) (And.intro (@cN_nil) (And.intro (@bt2) (And.intro (@bt3) (And.intro (@bg0) (And.intro (@bg1) (And.intro (@bg2) (And.intro (@bg3) (And.intro (@bg4) (And.intro (@bg5) (And.intro (@bg6) (And.intro (@bg7) (And.intro (@bg8) (And.intro (@bg9) (And.intro (@bg10) (And.intro (@bg11) (And.intro (@bg12) (And.intro (@bg13) (And.intro (@bg14) (And.intro (@bg15) (And.intro (@bg16) (And.intro (@bg17) (And.intro (@bg18) (And.intro (@bg19) (And.intro (@bg20) (And.intro (@bg21) (And.intro (@bg22) (And.intro (@bg23) (And.intro (@bg24) (And.intro (@bg25) (And.intro (@keyD_int) (And.intro (@opIsB_bool) (And.intro (@opIsB_none) (And.intro (@opIsB_int) (And.intro (@opIsB_str) (And.intro (@opIsB_tuple) (And.intro (@opIsB_list) (And.intro (@opNotB_bool) (And.intro (@opNotB_none) (And.intro (@opNotB_int) (And.intro (@opNotB_str) (And.intro (@opNotB_tuple) (And.intro (@opSubB_bool) (And.intro (@setSl1) (And.intro (@setSl0) (And.intro (@dTq_lk) (And.intro (@dSq_k) (And.intro (@dSq_t) (And.intro (@opAdd_int) (And.intro (@opAddI_int) (And.intro (@opSub_int) (And.intro (@opNeg_int) (And.intro (@opLt_int) (And.intro (@opLe_int) (And.intro (@opGt_int) (And.intro (@opGe_int) (And.intro (@opInt_int) (And.intro (@opMax2_int) (And.intro (@opMin2_int) (And.intro (@opAbs_int) (And.intro (@isNone_int) (And.intro (@isNone_none) (And.intro (@truthO_bool) (And.intro (@truthO_int) (And.intro (@truthO_none) (And.intro (@seqOf_list) (And.intro (@seqOf_tuple) (And.intro (@opLen_list) (And.intro (@opLen_tuple) (And.intro (@opTuple_list) (And.intro (@opTuple_tuple) (And.intro (@opRevT_tuple) (And.intro (@opRevT_list) (And.intro (@opIsN_eq) (And.intro (@opNotN_eq) (And.intro (@opIs_eq) (And.intro (@ret_app) (And.intro (@rse_app) (And.intro (@lft_some) (And.intro (@lft_none) (And.intro (@opEq_int) (And.intro (@opNe_int) (And.intro (@List.getElem?_cons_zero.{0}) (And.intro (@List.getElem?_cons_succ.{0}) (And.intro (@List.getElem?_nil.{0}) (And.intro (@List.set_cons_zero.{0}) (And.intro (@List.set_cons_succ.{0}) (And.intro (@List.cons_append.{0}) (And.intro (@List.nil_append.{0}) (And.intro (@List.length_cons.{0}) (And.intro (@List.length_nil.{0}) (And.intro (@List.all_cons.{0}) (And.intro (@List.all_nil.{0}) (And.intro (@Bool.and_self) (And.intro (@Bool.and_true) (And.intro (@true_and) (And.intro (@and_true) (And.intro (@false_and) (And.intro (@and_false) (And.intro (@decide_true) (And.intro (@decide_false) (And.intro (@Bool.false_eq_true) (And.intro (@decide_eq_true_eq) (And.intro (@Bool.not_true) (And.intro (@Bool.not_false) (And.intro (@Bool.not_eq_true') (@decide_eq_false_iff_not))))))))))))))))))))))))))))))))))))))))))))))))))))))))))))))))))))))))))))))))))))))))))))))))))))))))))
def R3 := And.intro (@List.take_length.{0}) (@Int.cast_ofNat_Int)
end Tn
end

section
set_option Elab.async false
set_option linter.all false
set_option maxRecDepth 100000
set_option maxHeartbeats 4000000
/-! what every law draws with -/
namespace Tn
open PySem
/-! ### box, take, pick -/
def boxB : XS := (sRetA (aNew (lDisp (xsC (xK (.int 0)) (xsC (xK (.int 0)) (xsC (xK (.int 0)) (xsC (xFz (lComp (iSc 0) (.nm 1) tYes (x1 opAbs (x1 opInt (xV 1))) [1])) xs0)))))))
def boxF : Fn := mkFn 1 2 boxB
def takeB : XS := (sSeq (sIf (tV (x2 opEq (x2L opIx 0 (xK (.int 1))) (xK (.int 0))))
    (sSeq (sSet 2 (x2L opIx 0 (xK (.int 2))))
    (sSeq (sSet 3 (xK (.int 0)))
    (sSeq (sIf (tV (x2 opLt (xV 2) (x1 opLen (x2L opIx 0 (xK (.int 3))))))
    (sSeq (sSet 3 (x2 opIx (x2L opIx 0 (xK (.int 3))) (xV 2)))
    (sPut 0 (xK (.int 1)) (xIf (tV (x2 opGe (xV 3) (x2 opPow (xK (.int 10)) (xK (.int 18))))) (xK (.int 60)) (x1 opNeg (xK (.int 9))))))
    sPass)
    (sSeq (sPut 0 (xK (.int 2)) (x2 opAdd (xV 2) (xK (.int 1))))
    (sSeq (sPut 0 (xK (.int 0)) (xV 3))
    (sIf (tV (x2 opEq (x2L opIx 0 (xK (.int 1))) (xK (.int 0))))
    (sRet (xK (.int 0)))
    sPass))))))
    sPass)
    (sSeq (sIf (tV (x2 opGt (x2L opIx 0 (xK (.int 1))) (xK (.int 0))))
    (sSeq (sSet 4 (x2 opMod (x1 opInt (x2L opIx 0 (xK (.int 0)))) (xV 1)))
    (sSeq (sPut 0 (xK (.int 0)) (x2 opFd (x2L opIx 0 (xK (.int 0))) (xV 1)))
    (sSeq (sPut 0 (xK (.int 1)) (xIf (tV (x2 opGt (x2L opIx 0 (xK (.int 0))) (xK (.int 0)))) (x2 opSub (x2L opIx 0 (xK (.int 1))) (xK (.int 1))) (xK (.int 0))))
    (sRet (xV 4)))))
    sPass)
    (sSeq (sPut 0 (xK (.int 1)) (x2 opAdd (x2L opIx 0 (xK (.int 1))) (xK (.int 1))))
    (sSeq (sPut 0 (xK (.int 0)) (x2 opMod (x1 opInt (x2 opAdd (x2 opMul (x2L opIx 0 (xK (.int 0))) (xK (.int 48271))) (x2 opMul (xK (.int 69621)) (x2 opAdd (x2L opIx 0 (xK (.int 1))) (xK (.int 20)))))) (xK (.int 2147483647))))
    (sRet (x2 opMod (x2 opMod (x1 opInt (x2 opAdd (x2 opFd (x2L opIx 0 (xK (.int 0))) (xK (.int 7))) (x2L opIx 0 (xK (.int 0))))) (xK (.int 1000003))) (xV 1)))))))
def takeF : Fn := mkFn 2 5 takeB
/-- a box that can be drawn from -/
def Box (S : List D) : Prop := ∃ (a b c : Int) (cells : List Int), 0 ≤ c ∧ S = [.list [.int a, .int b, .int c, .list (cells.map .int)]]
theorem take_wp {S : List D} (hS : Box S) {m : Int} (h0 : 0 < m) (h1 : m < 2 ^ 64) : Wp (takeF [.rf 0, .sh (.int m)] S) (fun r S' => (∃ v, r = .sh (.int v) ∧ 0 ≤ v ∧ v < m) ∧ Box S') fun _ _ => False := by
  obtain ⟨a, b, c, cells, hc, rfl⟩ := hS
  obtain ⟨n, rfl⟩ := Int.eq_ofNat_of_zero_le hc
  have e1 : ∀ {x : Int}, opMod (.int x) (.int m) = some (.int (x % m)) := opMod_int h0
  have e2 : ∀ {x : Int}, opFd (.int x) (.int m) = some (.int (x / m)) := opFd_int h0 h1
  have e3 : ∀ {x : Int}, opMod (.int x) (.int 2147483647) = some (.int (x % 2147483647)) := opMod_int (by decide)
  have e4 : ∀ {x : Int}, opMod (.int x) (.int 1000003) = some (.int (x % 1000003)) := opMod_int (by decide)
  have e5 : ∀ {x : Int}, opFd (.int x) (.int 7) = some (.int (x / 7)) := opFd_int (by decide) (by decide)
  have e6 : ∀ {x : Int}, opMul (.int x) (.int 48271) = some (.int (x * 48271)) := opMul_r (by decide)
  have e7 : ∀ {x : Int}, opMul (.int 69621) (.int x) = some (.int (69621 * x)) := opMul_l (by decide)
  have e8 : opPow (.int 10) (.int 18) = some (.int (10 ^ 18)) := rfl
  have i0 : ∀ {x0 x1 x2 x3 : D}, opIx (.list [x0, x1, x2, x3]) (.int 0) = some x0 := rfl
  have i1 : ∀ {x0 x1 x2 x3 : D}, opIx (.list [x0, x1, x2, x3]) (.int 1) = some x1 := rfl
  have i2 : ∀ {x0 x1 x2 x3 : D}, opIx (.list [x0, x1, x2, x3]) (.int 2) = some x2 := rfl
  have i3 : ∀ {x0 x1 x2 x3 : D}, opIx (.list [x0, x1, x2, x3]) (.int 3) = some x3 := rfl
  have g0 : ∀ {x0 x1 x2 x3 y : D}, gPut (.int 0) y [x0, x1, x2, x3] = some [y, x1, x2, x3] := rfl
  have g1 : ∀ {x0 x1 x2 x3 y : D}, gPut (.int 1) y [x0, x1, x2, x3] = some [x0, y, x2, x3] := rfl
  have g2 : ∀ {x0 x1 x2 x3 y : D}, gPut (.int 2) y [x0, x1, x2, x3] = some [x0, x1, y, x3] := rfl
  have l2 : ∀ {x y : Int}, opEq (.int x) (.int y) = some (.bool (decide (x = y))) := opEq_int
  unfold takeF takeB
  rw [wp_mkFn]
  refine ⟨rfl, rfl, ?_⟩
  have ee : [Sl.rf 0, Sl.sh (PyData.int m)] ++ List.replicate (5 - 2) Sl.un = [Sl.rf 0, Sl.sh (PyData.int m), Sl.un, Sl.un, Sl.un] := rfl
  rw [ee]
  have md : ∀ x : Int, (∃ v, Sl.sh (PyData.int (x % m)) = Sl.sh (PyData.int v) ∧ 0 ≤ v ∧ v < m) := fun x => ⟨_, rfl, Int.emod_nonneg x (by omega), Int.emod_lt_of_pos x h0⟩
  have bx : ∀ (x y : Int) (k : Nat) (t : List D), Box (List.take (0 + 1) ([PyData.list [PyData.int x, PyData.int y, PyData.int k, .list (cells.map .int)]])) := fun x y k t => ⟨x, y, k, cells, Int.natCast_nonneg k, rfl⟩
  have ci : ∀ (t : Bool) (p q : Prop), p → q → cI t p q := fun t p q hp hq => by cases t <;> simpa
  by_cases hb : b = 0
  · subst hb
    cases hz : cells[n]? with
    | none =>
      have hl : ¬ (n : Int) < ((cells.map PyData.int).length : Int) := by
        rw [List.length_map]
        have := List.getElem?_eq_none_iff.mp hz
        omega
      simp (implicitDefEqProofs := false) only [↓wp_sIf, ↓wp_xAnd, ↓wp_xOr, ↓R1, R2, if_true, if_false, ite_true, ite_false, has, mutL, isArg, reduceCtorEq, Int.reduceEq, Int.reduceLT, Int.reduceLE, Int.reduceNeg, Int.reduceAdd, Int.reduceSub, Int.reduceMul, Nat.reduceAdd, Nat.reduceLT, Nat.reduceSub, hl, i0, i1, i2, i3, g0, g1, g2]
      exact ⟨⟨0, rfl, Int.le_refl _, h0⟩, bx 0 0 (n + 1) []⟩
    | some z =>
      have hl : (n : Int) < ((cells.map PyData.int).length : Int) := by
        rw [List.length_map]
        have := (List.getElem?_eq_some_iff.mp hz).1
        omega
      have ix : opIx (.list (cells.map .int)) (.int (n : Int)) = some (.int z) := opIx_list (by rw [List.getElem?_map, hz]; rfl)
      by_cases hz2 : (10 ^ 18 : Int) ≤ z
      · simp (implicitDefEqProofs := false) only [↓wp_sIf, ↓wp_xAnd, ↓wp_xOr, ↓R1, R2, if_true, if_false, ite_true, ite_false, has, mutL, isArg, reduceCtorEq, Int.reduceEq, Int.reduceLT, Int.reduceLE, Int.reduceNeg, Int.reduceAdd, Int.reduceSub, Int.reduceMul, Nat.reduceAdd, Nat.reduceLT, Nat.reduceSub, hl, ix, hz2, i0, i1, i2, i3, g0, g1, g2, e1, e2, e8]
        refine ci _ _ _ ?_ ?_ <;> (simp (implicitDefEqProofs := false) only [↓wp_sIf, ↓wp_xAnd, ↓wp_xOr, ↓R1, R2, if_true, if_false, ite_true, ite_false, has, mutL, isArg, reduceCtorEq, Int.reduceEq, Int.reduceLT, Int.reduceLE, Int.reduceNeg, Int.reduceAdd, Int.reduceSub, Int.reduceMul, Nat.reduceAdd, Nat.reduceLT, Nat.reduceSub, hz2, i0, i1, i2, i3, g0, g1, g2, e1, e2, e8]; exact ⟨md _, bx _ _ (n + 1) []⟩)
      · simp (implicitDefEqProofs := false) only [↓wp_sIf, ↓wp_xAnd, ↓wp_xOr, ↓R1, R2, if_true, if_false, ite_true, ite_false, has, mutL, isArg, reduceCtorEq, Int.reduceEq, Int.reduceLT, Int.reduceLE, Int.reduceNeg, Int.reduceAdd, Int.reduceSub, Int.reduceMul, Nat.reduceAdd, Nat.reduceLT, Nat.reduceSub, hl, ix, hz2, i0, i1, i2, i3, g0, g1, g2, e1, e2, e3, e4, e5, e6, e7, e8]
        exact ⟨md _, bx _ _ (n + 1) []⟩
  · by_cases hb2 : 0 < b
    · simp (implicitDefEqProofs := false) only [↓wp_sIf, ↓wp_xAnd, ↓wp_xOr, ↓R1, R2, if_true, if_false, ite_true, ite_false, has, mutL, isArg, reduceCtorEq, Int.reduceEq, Int.reduceLT, Int.reduceLE, Int.reduceNeg, Int.reduceAdd, Int.reduceSub, Int.reduceMul, Nat.reduceAdd, Nat.reduceLT, Nat.reduceSub, hb, hb2, i0, i1, i2, i3, g0, g1, g2, e1, e2]
      refine ci _ _ _ ?_ ?_ <;> (simp (implicitDefEqProofs := false) only [↓wp_sIf, ↓wp_xAnd, ↓wp_xOr, ↓R1, R2, if_true, if_false, ite_true, ite_false, has, mutL, isArg, reduceCtorEq, Int.reduceEq, Int.reduceLT, Int.reduceLE, Int.reduceNeg, Int.reduceAdd, Int.reduceSub, Int.reduceMul, Nat.reduceAdd, Nat.reduceLT, Nat.reduceSub, i0, i1, i2, i3, g0, g1, g2, e1, e2]; exact ⟨md _, bx _ _ _ []⟩)
    · simp (implicitDefEqProofs := false) only [↓wp_sIf, ↓wp_xAnd, ↓wp_xOr, ↓R1, R2, if_true, if_false, ite_true, ite_false, has, mutL, isArg, reduceCtorEq, Int.reduceEq, Int.reduceLT, Int.reduceLE, Int.reduceNeg, Int.reduceAdd, Int.reduceSub, Int.reduceMul, Nat.reduceAdd, Nat.reduceLT, Nat.reduceSub, hb, hb2, i0, i1, i2, i3, g0, g1, g2, e1, e2, e3, e4, e5, e6, e7, e8]
      exact ⟨md _, bx _ _ _ []⟩
/-! ### comprehensions without drawing -/
theorem comp_run {tg : Tg} {c : XT} {e : XE} {ε : Ev} {S : List D} (P : D → Bool) (f : D → D) : ∀ {items : List D},
    (∀ x ∈ items, ∃ ε1, bindT tg x ε = some ε1 ∧ Wp (c ε1 S) (fun t S' => S' = S ∧ t = P x) (fun _ _ => False) ∧ (P x = true → Wp (e ε1 S) (fun y S' => S' = S ∧ y = f x) fun _ _ => False)) →
    compGo tg c e ε items S = some (.ok ((items.filter P).map f) S)
  | [], _ => rfl
  | x :: r, h => by
    obtain ⟨ε1, e1, h1, h2⟩ := h x List.mem_cons_self
    have ih := comp_run P f (items := r) fun y hy => h y (List.mem_cons_of_mem _ hy)
    obtain ⟨t, S1, e2, rfl, rfl⟩ := wp_run.mp h1
    unfold compGo
    simp only [e1]
    rw [bnd_ok (a := P x) (S1 := S1) (by unfold qt; rw [e2])]
    cases hP : P x with
    | false =>
      simp only [Bool.false_eq_true, if_false]
      rw [ih, List.filter_cons_of_neg (by rw [hP]; exact Bool.false_ne_true)]
    | true =>
      obtain ⟨y, S2, e3, rfl, rfl⟩ := wp_run.mp (h2 hP)
      simp only [if_true]
      rw [bnd_ok (a := f x) (S1 := S2) (by unfold qt; rw [e3]), bnd_ok ih, List.filter_cons_of_pos hP]
      rfl
theorem comp_wp {tg : Tg} {c : XT} {e : XE} {ε : Ev} {S : List D} {it : XL} {own : List Nat} {Q : List D → List D → Prop} {E : Ex → List D → Prop} (P : D → Bool) (f : D → D) (hn : noOw ε own = true)
    (h : Wp (it ε S) (fun items S' => (∀ x ∈ items, ∃ ε1, bindT tg x (wip ε own) = some ε1 ∧ Wp (c ε1 S') (fun t S2 => S2 = S' ∧ t = P x) (fun _ _ => False) ∧ (P x = true → Wp (e ε1 S') (fun y S2 => S2 = S' ∧ y = f x) fun _ _ => False)) ∧ Q ((items.filter P).map f) S') E) :
    Wp (lComp it tg c e own ε S) Q E := by
  unfold lComp
  rw [wp_bnd]
  refine h.mono (fun items S' hh => ?_) fun _ _ h => h
  rw [if_pos hn]
  exact Wp.of (comp_run P f hh.1) hh.2
def absD : D → D
  | .int i => .int (if i < 0 then -i else i)
  | _ => .none
theorem box_wp {ns : List Int} : Wp (boxF [.sc (.list (ns.map .int))] []) (fun r S' => r = .rf 0 ∧ Box S') fun _ _ => False := by
  unfold boxF boxB
  rw [wp_mkFn]
  refine ⟨rfl, rfl, ?_⟩
  have ee : [Sl.sc (PyData.list (ns.map .int))] ++ List.replicate (2 - 1) Sl.un = [Sl.sc (PyData.list (ns.map .int)), Sl.un] := rfl
  rw [ee]
  simp (implicitDefEqProofs := false) only [↓wp_sIf, ↓wp_xAnd, ↓wp_xOr, ↓R1, R2, if_true, if_false, ite_true, ite_false, has, mutL, isArg, reduceCtorEq, Int.reduceEq, Int.reduceLT, Int.reduceLE, Int.reduceNeg, Int.reduceAdd, Int.reduceSub, Int.reduceMul, Nat.reduceAdd, Nat.reduceLT, Nat.reduceSub]
  refine comp_wp (fun _ => true) absD rfl ?_
  unfold iSc
  show (_ ∧ _)
  refine ⟨fun x hx => ?_, ?_⟩
  · obtain ⟨i, _, rfl⟩ := List.mem_map.mp hx
    exact ⟨_, rfl, ⟨rfl, rfl⟩, fun _ => ⟨rfl, rfl⟩⟩
  · simp (implicitDefEqProofs := false) only [↓wp_sIf, ↓wp_xAnd, ↓wp_xOr, ↓R1, R2, if_true, if_false, ite_true, ite_false, has, mutL, isArg, reduceCtorEq, Int.reduceEq, Int.reduceLT, Int.reduceLE, Int.reduceNeg, Int.reduceAdd, Int.reduceSub, Int.reduceMul, Nat.reduceAdd, Nat.reduceLT, Nat.reduceSub]
    · refine ⟨0, 0, 0, ns.map fun i => if i < 0 then -i else i, Int.le_refl _, ?_⟩
      have e : ∀ l : List Int, List.map absD (List.filter (fun _ => true) (List.map PyData.int l)) = List.map PyData.int (l.map fun i => if i < 0 then -i else i) := fun l => by
        induction l with
        | nil => rfl
        | cons a l ih => rw [List.map_cons, List.filter_cons_of_pos rfl, List.map_cons, List.map_cons, List.map_cons, ih]; rfl
      rw [e]
/-- one of the menu -/
def pickB : XS := (sRet (x2 opIx (xV 1) (xCall takeF (asC (aR 0) (asC (aD (x1 opLen (xV 1))) as0)))))
def pickF : Fn := mkFn 2 2 pickB
theorem pick_wp {S : List D} (hS : Box S) {ds : List D} {d : D} (hd : d = .list ds ∨ d = .tuple ds) (h0 : ds ≠ []) (h1 : ds.length < 2 ^ 64) : Wp (pickF [.rf 0, .sh d] S) (fun r S' => (∃ x ∈ ds, r = .sh x) ∧ Box S') fun _ _ => False := by
  have hp : 0 < ds.length := List.length_pos_iff.mpr h0
  have ln : opLen d = some (.int ds.length) := by rcases hd with rfl | rfl <;> rfl
  unfold pickF pickB
  rw [wp_mkFn]
  refine ⟨rfl, rfl, ?_⟩
  have ee : [Sl.rf 0, Sl.sh d] ++ List.replicate (2 - 2) Sl.un = [Sl.rf 0, Sl.sh d] := rfl
  rw [ee]
  simp (implicitDefEqProofs := false) only [↓wp_sIf, ↓wp_xAnd, ↓wp_xOr, ↓R1, R2, if_true, if_false, ite_true, ite_false, has, mutL, isArg, reduceCtorEq, Int.reduceEq, Int.reduceLT, Int.reduceLE, Int.reduceNeg, Int.reduceAdd, Int.reduceSub, Int.reduceMul, Nat.reduceAdd, Nat.reduceLT, Nat.reduceSub, ln]
  refine (take_wp hS (m := ds.length) (by omega) (by omega)).mono (fun r S' hh => ?_) fun _ _ h => h
  obtain ⟨⟨v, rfl, v0, v1⟩, hb⟩ := hh
  obtain ⟨n, rfl⟩ := Int.eq_ofNat_of_zero_le v0
  have hn : n < ds.length := by omega
  have ix : opIx d (.int n) = some ds[n] := by
    rcases hd with rfl | rfl
    · exact opIx_list (List.getElem?_eq_getElem hn)
    · exact opIx_tup (List.getElem?_eq_getElem hn)
  simp (implicitDefEqProofs := false) only [↓wp_sIf, ↓wp_xAnd, ↓wp_xOr, ↓R1, R2, if_true, if_false, ite_true, ite_false, has, mutL, isArg, reduceCtorEq, Int.reduceEq, Int.reduceLT, Int.reduceLE, Int.reduceNeg, Int.reduceAdd, Int.reduceSub, Int.reduceMul, Nat.reduceAdd, Nat.reduceLT, Nat.reduceSub, ix]
  refine ⟨⟨_, List.getElem_mem hn, rfl⟩, ?_⟩
  obtain ⟨a, b, c, cells, hc, e1⟩ := hS
  obtain ⟨a2, b2, c2, cells2, hc2, rfl⟩ := hb
  rw [e1]
  exact ⟨a2, b2, c2, cells2, hc2, rfl⟩
/-! ### loops -/
/-- behind a turn -/
def cF (n : Ev → Prop) (q : SR → Prop) : SR → Prop
  | .nx ε => n ε
  | .ct ε => n ε
  | .bk ε => q (.nx ε)
  | .rt v => q (.rt v)
theorem for_wp {tg : Tg} {body : XS} {QR : SR → List D → Prop} {E : Ex → List D → Prop} (J : List D → Ev → List D → Prop) (he : ∀ ε S, J [] ε S → QR (.nx ε) S)
    (hs : ∀ x r ε S, J (x :: r) ε S → ∃ ε1, bindT tg x ε = some ε1 ∧ Wp (body ε1 S) (fun q S' => cF (fun ε2 => J r ε2 S') (fun q => QR q S') q) E) : ∀ {items : List D} {ε : Ev} {S : List D}, J items ε S → Wp (forGo tg body items ε S) QR E
  | [], ε, S, h => he ε S h
  | x :: r, ε, S, h => by
    obtain ⟨ε1, e1, h1⟩ := hs x r ε S h
    unfold forGo
    simp only [e1]
    rw [wp_bnd]
    refine h1.mono (fun q S' hq => ?_) fun _ _ h => h
    cases q with
    | nx ε2 => exact for_wp J he hs hq
    | ct ε2 => exact for_wp J he hs hq
    | bk ε2 => exact hq
    | rt v => exact hq
end Tn
end

section
set_option Elab.async false
set_option linter.all false
set_option maxRecDepth 100000
set_option maxHeartbeats 4000000
/-! loops and comprehensions, counted; runs of one value -/
namespace Tn
open PySem
theorem cI_split {t : Bool} {p q : Prop} (h1 : t = true → p) (h2 : t = false → q) : cI t p q := by cases t; exact cI_false.mpr (h2 rfl); exact cI_true.mpr (h1 rfl)
theorem cI_dec {c : Prop} [Decidable c] {p q : Prop} (h1 : c → p) (h2 : ¬ c → q) : cI (decide c) p q := cI_split (fun h => h1 (of_decide_eq_true h)) fun h => h2 (of_decide_eq_false h)
/-- a walk over a list, counted -/
theorem for_lst {tg : Tg} {body : XS} {QR : SR → List D → Prop} {E : Ex → List D → Prop} {xs : List D} (J : Nat → Ev → List D → Prop) (he : ∀ ε S, J xs.length ε S → QR (.nx ε) S)
    (hs : ∀ n (hn : n < xs.length) ε S, J n ε S → ∃ ε1, bindT tg xs[n] ε = some ε1 ∧ Wp (body ε1 S) (fun q S' => cF (fun ε2 => J (n + 1) ε2 S') (fun q => QR q S') q) E) {ε : Ev} {S : List D} (h : J 0 ε S) : Wp (forGo tg body xs ε S) QR E := by
  refine for_wp (fun rest ε S => ∃ n, n ≤ xs.length ∧ rest = xs.drop n ∧ J n ε S) ?_ ?_ (items := xs) ⟨0, Nat.zero_le _, rfl, h⟩
  · rintro ε S ⟨n, hn, e, hj⟩
    have : n = xs.length := by
      have := congrArg List.length e
      rw [List.length_drop, List.length_nil] at this
      omega
    exact he _ _ (this ▸ hj)
  · rintro x r ε S ⟨n, hn, e, hj⟩
    have hn2 : n < xs.length := by
      have := congrArg List.length e
      rw [List.length_drop, List.length_cons] at this
      omega
    rw [List.drop_eq_getElem_cons hn2] at e
    injection e with e1 e2
    obtain ⟨ε1, h1, h2⟩ := hs n hn2 ε S hj
    refine ⟨ε1, e1 ▸ h1, h2.mono (fun q S' hq => ?_) fun _ _ h => h⟩
    cases q with
    | nx ε2 => exact ⟨n + 1, hn2, e2, hq⟩
    | ct ε2 => exact ⟨n + 1, hn2, e2, hq⟩
    | bk ε2 => exact hq
    | rt v => exact hq
theorem rngL_ln {lo : Int} {m : Nat} : (rngL lo m).length = m := by unfold rngL; rw [List.length_map, List.length_range]
theorem rngL_gt {lo : Int} {m n : Nat} (h : n < (rngL lo m).length) : (rngL lo m)[n] = .int (lo + n) := by
  have e : (rngL lo m)[n]? = some (.int (lo + n)) := by
    unfold rngL
    rw [List.getElem?_map, List.getElem?_range (by rw [rngL_ln] at h; exact h)]; rfl
  exact Option.some.inj ((List.getElem?_eq_getElem h).symm.trans e)
theorem for_rng {tg : Tg} {body : XS} {QR : SR → List D → Prop} {E : Ex → List D → Prop} {lo : Int} {m : Nat} (J : Nat → Ev → List D → Prop) (he : ∀ ε S, J m ε S → QR (.nx ε) S)
    (hs : ∀ n, n < m → ∀ ε S, J n ε S → ∃ ε1, bindT tg (.int (lo + n)) ε = some ε1 ∧ Wp (body ε1 S) (fun q S' => cF (fun ε2 => J (n + 1) ε2 S') (fun q => QR q S') q) E) {ε : Ev} {S : List D} (h : J 0 ε S) : Wp (forGo tg body (rngL lo m) ε S) QR E := by
  refine for_lst J (fun ε S hj => he _ _ (by rw [rngL_ln] at hj; exact hj)) (fun n hn ε S hj => ?_) h
  rw [rngL_gt hn]
  exact hs n (by rw [rngL_ln] at hn; exact hn) ε S hj
/-! ranges asked for -/
theorem wp_iR1 {a : XE} {ε : Ev} {S : List D} {QL : List D → List D → Prop} {E : Ex → List D → Prop} : Wp (iR1 a ε S) QL E ↔ Wp (a ε S) (fun x S' => ∃ j : Int, x = .int j ∧ j ≤ 16777216 ∧ -1152921504606846976 < j ∧ QL (rngL 0 j.toNat) S') E := by
  unfold iR1
  rw [wp_bnd]
  refine ⟨fun h => h.mono (fun x S1 h => ?_) fun _ _ h => h, fun h => h.mono (fun x S1 h => ?_) fun _ _ h => h⟩
  · cases x with
    | int j =>
      have h : Wp ((if (decide (j ≤ (big : Int)) && decide (-(2 ^ 60) < j)) = true then ret (rngL 0 j.toNat) else stk) S1) QL E := h
      rw [wp_guard, wp_ret, Bool.and_eq_true, decide_eq_true_eq, decide_eq_true_eq] at h
      exact ⟨j, rfl, h.1.1, h.1.2, h.2⟩
    | _ => exact h.elim
  · obtain ⟨j, rfl, h1, h2, h3⟩ := h
    show Wp ((if (decide (j ≤ (big : Int)) && decide (-(2 ^ 60) < j)) = true then ret (rngL 0 j.toNat) else stk) S1) QL E
    rw [wp_guard, wp_ret, Bool.and_eq_true, decide_eq_true_eq, decide_eq_true_eq]
    exact ⟨⟨h1, h2⟩, h3⟩
theorem wp_iR1i {a : XE} {ε : Ev} {S : List D} {QL : List D → List D → Prop} {E : Ex → List D → Prop} {j : Int} (h : Wp (a ε S) (fun x S' => x = .int j ∧ j ≤ 16777216 ∧ -1152921504606846976 < j ∧ QL (rngL 0 j.toNat) S') E) : Wp (iR1 a ε S) QL E :=
  wp_iR1.mpr (h.mono (fun x S' h => ⟨j, h⟩) fun _ _ h => h)
theorem wp_iR2i {a b : XE} {ε : Ev} {S : List D} {QL : List D → List D → Prop} {E : Ex → List D → Prop} {i j : Int} (h : Wp (a ε S) (fun x S1 => Wp (b ε S1) (fun y S2 => x = .int i ∧ y = .int j ∧ (j - i ≤ 16777216 ∧ -1152921504606846976 < i ∧ i < 1152921504606846976 ∧ -1152921504606846976 < j) ∧ QL (rngL i (j - i).toNat) S2) E) E) : Wp (iR2 a b ε S) QL E := by
  unfold iR2
  rw [wp_bnd]
  refine h.mono (fun x S1 h => ?_) fun _ _ h => h
  rw [wp_bnd]
  refine h.mono (fun y S2 h => ?_) fun _ _ h => h
  obtain ⟨rfl, rfl, ⟨h1, h2, h3, h4⟩, h5⟩ := h
  show Wp ((if (decide (j - i ≤ (big : Int)) && decide (-(2 ^ 60) < i) && decide (i < 2 ^ 60) && decide (-(2 ^ 60) < j)) = true then ret (rngL i (j - i).toNat) else stk) S2) QL E
  rw [wp_guard, wp_ret]
  simp only [Bool.and_eq_true, decide_eq_true_eq]
  exact ⟨⟨⟨⟨h1, h2⟩, h3⟩, h4⟩, h5⟩
theorem wp_sFor {it : XL} {tg : Tg} {body : XS} {ε : Ev} {S : List D} {QR : SR → List D → Prop} {E : Ex → List D → Prop} : Wp (sFor it tg body ε S) QR E ↔ Wp (it ε S) (fun items S' => Wp (forGo tg body items ε S') QR E) E := by unfold sFor; rw [wp_bnd]
/-! comprehensions -/
theorem map_wp {i : Nat} {e : XE} {ε : Ev} {S : List D} {it : XL} {own : List Nat} {Q : List D → List D → Prop} {E : Ex → List D → Prop} (f : D → D) (hn : noOw ε own = true)
    (h : Wp (it ε S) (fun items S' => (∀ x ∈ items, Wp (e ((Tn.wip ε own).set i (.sh x)) S') (fun y S2 => S2 = S' ∧ y = f x) fun _ _ => False) ∧ Q (items.map f) S') E) :
    Wp (lComp it (.nm i) tYes e own ε S) Q E := by
  refine comp_wp (fun _ => true) f hn (h.mono (fun items S' hh => ⟨fun x hx => ⟨_, rfl, ⟨rfl, rfl⟩, fun _ => hh.1 x hx⟩, ?_⟩) fun _ _ h => h)
  rw [List.filter_eq_self.mpr fun _ _ => rfl]
  exact hh.2
theorem filt_wp {i : Nat} {c : XT} {e : XE} {ε : Ev} {S : List D} {it : XL} {own : List Nat} {Q : List D → List D → Prop} {E : Ex → List D → Prop} (P : D → Bool) (f : D → D) (hn : noOw ε own = true)
    (h : Wp (it ε S) (fun items S' => (∀ x ∈ items, Wp (c ((Tn.wip ε own).set i (.sh x)) S') (fun t S2 => S2 = S' ∧ t = P x) (fun _ _ => False) ∧ (P x = true → Wp (e ((Tn.wip ε own).set i (.sh x)) S') (fun y S2 => S2 = S' ∧ y = f x) fun _ _ => False)) ∧ Q ((items.filter P).map f) S') E) :
    Wp (lComp it (.nm i) c e own ε S) Q E :=
  comp_wp P f hn (h.mono (fun items S' hh => ⟨fun x hx => ⟨_, rfl, hh.1 x hx⟩, hh.2⟩) fun _ _ h => h)
/-! a run's rule -/
theorem wp_of_run {α : Type} {r : Option (Res α)} {c : Bool} {v : α} {x : Ex} {S : List D} (h : Wp r (fun a S' => c = true ∧ a = v ∧ S' = S) fun e S' => c = false ∧ e = x ∧ S' = S) {Q : α → List D → Prop} {E : Ex → List D → Prop} : Wp r Q E ↔ cI c (Q v S) (E x S) := by
  cases r with
  | none => exact h.elim
  | some r =>
    cases r with
    | ok a S1 => obtain ⟨rfl, rfl, rfl⟩ := (h : c = true ∧ a = v ∧ S1 = S); exact cI_true.symm
    | ex e S1 => obtain ⟨rfl, rfl, rfl⟩ := (h : c = false ∧ e = x ∧ S1 = S); exact cI_false.symm
theorem wp_of_val {α : Type} {r : Option (Res α)} {v : α} {S : List D} (h : Wp r (fun a S' => a = v ∧ S' = S) fun _ _ => False) {Q : α → List D → Prop} {E : Ex → List D → Prop} : Wp r Q E ↔ Q v S := by
  obtain ⟨a, S', e, rfl, rfl⟩ := wp_run.mp h
  rw [e]; exact Iff.rfl
theorem wp_of_eq {α : Type} {r : Option (Res α)} {v : α} {S : List D} (h : r = some (.ok v S)) {Q : α → List D → Prop} {E : Ex → List D → Prop} : Wp r Q E ↔ Q v S := by rw [h]; exact Iff.rfl
theorem wp_of_exc {α : Type} {r : Option (Res α)} {x : Ex} {S : List D} (h : Wp r (fun a S' => False) fun e S' => e = x ∧ S' = S) {Q : α → List D → Prop} {E : Ex → List D → Prop} : Wp r Q E ↔ E x S := by
  cases r with
  | none => exact h.elim
  | some r =>
    cases r with
    | ok a S1 => exact h.elim
    | ex e S1 => obtain ⟨rfl, rfl⟩ := (h : e = x ∧ S1 = S); exact Iff.rfl
/-! a refusal caught -/
theorem wp_refusal {okv : D} {hs : List (Ex × D)} {act : M D} {S : List D} {Q : D → List D → Prop} {E : Ex → List D → Prop} : Wp (refusal okv hs act S) Q E ↔ Wp (act S) (fun _ S1 => Q okv S1) (fun e S1 => match hs.lookup e with | some d => Q d S1 | none => False) := by
  unfold Wp refusal
  cases act S with
  | none => exact Iff.rfl
  | some r =>
    cases r with
    | ok a S1 => exact Iff.rfl
    | ex e S1 => dsimp only; cases hs.lookup e <;> exact Iff.rfl
theorem wp_xLam {G : M D → M D} {e : XE} {ε : Ev} {S : List D} {Q : D → List D → Prop} {E : Ex → List D → Prop} : Wp (xLam G e ε S) Q E ↔ Wp (G (e ε) S) Q E := Iff.rfl
/-! lists of truths -/
theorem bools_map (f : D → Bool) : ∀ xs : List D, boolsOf (xs.map fun x => .bool (f x)) = some (xs.map f)
  | [] => rfl
  | x :: xs => by rw [List.map_cons, boolsOf, bools_map f xs]; rfl
theorem opAll_map (f : D → Bool) (xs : List D) : opAll (.list (xs.map fun x => .bool (f x))) = some (.bool (xs.all f)) := by
  unfold opAll
  rw [seqOf_list]
  simp only [bools_map, Option.map_some, List.all_map]
  rfl
theorem opAny_map (f : D → Bool) (xs : List D) : opAny (.list (xs.map fun x => .bool (f x))) = some (.bool (xs.any f)) := by
  unfold opAny
  rw [seqOf_list]
  simp only [bools_map, Option.map_some, List.any_map]
  rfl
/-! flat data held against one another -/
def isNum : D → Bool
  | .int _ => true
  | _ => false
theorem memD_int {i : Int} : ∀ {gs : List Int}, memD (.int i) (gs.map .int) = gs.contains i
  | [] => rfl
  | g :: gs => by
    have ih := memD_int (i := i) (gs := gs)
    unfold memD at ih ⊢
    rw [List.map_cons, List.any_cons, ih, List.contains_cons]
    congr 1
    show (decide (g = i)) = (i == g)
    by_cases h : g = i
    · subst h; simp
    · rw [decide_eq_false h]; symm; rw [beq_eq_false_iff_ne]; exact fun e => h e.symm
theorem opIn_ints {i : Int} {gs : List Int} : opIn (.int i) (.tuple (gs.map .int)) = some (.bool (gs.contains i)) := by
  unfold opIn
  rw [seqOf_tuple]
  dsimp only
  rw [if_pos (by simp [PyData.depth]), memD_int]
theorem opNotIn_ints {i : Int} {gs : List Int} : opNotIn (.int i) (.tuple (gs.map .int)) = some (.bool (!gs.contains i)) := by
  unfold opNotIn
  rw [seqOf_tuple]
  dsimp only
  rw [if_pos (by simp [PyData.depth]), memD_int]
end Tn
namespace Tn
open PySem
theorem take_then {S : List D} {m : Int} {Q : Sl → List D → Prop} {E : Ex → List D → Prop} (hS : Box S) (h0 : 0 < m) (h1 : m < 2 ^ 64) (h : ∀ (v : Nat) S', (v : Int) < m → Box S' → Q (.sh (.int v)) S') : Wp (takeF [.rf 0, .sh (.int m)] S) Q E :=
  (take_wp hS h0 h1).mono (fun r S' hh => by
    obtain ⟨⟨v, rfl, v0, v1⟩, hb⟩ := hh
    obtain ⟨n, rfl⟩ := Int.eq_ofNat_of_zero_le v0
    exact h n S' v1 hb) fun _ _ h => h.elim
theorem pick_then {S : List D} {ds : List D} {Q : Sl → List D → Prop} {E : Ex → List D → Prop} (hS : Box S) (h0 : ds ≠ []) (h1 : ds.length < 2 ^ 64) (h : ∀ x S', x ∈ ds → Box S' → Q (.sh x) S') : Wp (pickF [.rf 0, .sh (.list ds)] S) Q E :=
  (pick_wp hS (.inl rfl) h0 h1).mono (fun r S' hh => by
    obtain ⟨⟨x, hx, rfl⟩, hb⟩ := hh
    exact h x S' hx hb) fun _ _ h => h.elim
theorem pick_thenT {S : List D} {ds : List D} {Q : Sl → List D → Prop} {E : Ex → List D → Prop} (hS : Box S) (h0 : ds ≠ []) (h1 : ds.length < 2 ^ 64) (h : ∀ x S', x ∈ ds → Box S' → Q (.sh x) S') : Wp (pickF [.rf 0, .sh (.tuple ds)] S) Q E :=
  (pick_wp hS (.inr rfl) h0 h1).mono (fun r S' hh => by
    obtain ⟨⟨x, hx, rfl⟩, hb⟩ := hh
    exact h x S' hx hb) fun _ _ h => h.elim
theorem box_len {S : List D} (h : Box S) : S.length = 1 := by obtain ⟨a, b, c, cells, hc, rfl⟩ := h; rfl
theorem box_take {S S' : List D} (h : Box S) (h' : Box S') : S'.take S.length = S' := by rw [box_len h, ← box_len h', List.take_length]
theorem box_then {ns : List Int} {Q : Sl → List D → Prop} {E : Ex → List D → Prop} (h : ∀ S', Box S' → Q (.rf 0) S') : Wp (boxF [.sc (.list (ns.map .int))] []) Q E :=
  box_wp.mono (fun r S' hh => by
    obtain ⟨rfl, hb⟩ := hh
    exact h S' hb) fun _ _ h => h.elim
/-- a law's run -/
theorem law_of {F : Fn} {np ns : Nat} {b : XS} {l : D} (hF : F = mkFn np ns b) (h : Wp (b ([.sc l] ++ List.replicate (ns - np) .un) []) (fun r _ => r = .rt (.sh (.bool true))) fun _ _ => False) (hn : np = 1) : ∃ S', F [.sc l] [] = some (.ok (.sh (.bool true)) S') := by
  subst hF; subst hn
  have w : Wp (mkFn 1 ns b [.sc l] []) (fun r _ => r = .sh (.bool true)) fun _ _ => False := by
    rw [wp_mkFn]
    refine ⟨rfl, rfl, h.mono (fun r S' e => ?_) fun _ _ h => h⟩
    subst e
    rfl
  obtain ⟨a, S', e, rfl⟩ := wp_run.mp w
  exact ⟨S', e⟩
/-! a datum held against itself -/
theorem opNe_self {d : D} (h : d.plain = true) (hd : d.depth ≤ 64) : opNe d d = some (.bool false) := by
  unfold opNe
  rw [if_pos (.inl hd), PySem.SeqAt.eqv_refl_plain d h]; rfl
theorem opEq_self {d : D} (h : d.plain = true) (hd : d.depth ≤ 64) : opEq d d = some (.bool true) := by
  unfold opEq
  rw [if_pos (.inl hd), PySem.SeqAt.eqv_refl_plain d h]
def isNI (d : D) : Prop := d = .none ∨ ∃ i : Int, d = .int i
theorem ni_plain : ∀ {xs : List D}, (∀ x ∈ xs, isNI x) → PyData.plainAll xs = true
  | [], _ => rfl
  | x :: xs, h => by
    have ih := ni_plain fun y hy => h y (List.mem_cons_of_mem _ hy)
    rw [PyData.plainAll, ih]
    rcases h x List.mem_cons_self with rfl | ⟨i, rfl⟩ <;> rfl
theorem ni_depth : ∀ {xs : List D}, (∀ x ∈ xs, isNI x) → PyData.depthAll xs = 0
  | [], _ => rfl
  | x :: xs, h => by
    have ih := ni_depth fun y hy => h y (List.mem_cons_of_mem _ hy)
    rw [PyData.depthAll, ih]
    rcases h x List.mem_cons_self with rfl | ⟨i, rfl⟩ <;> simp [PyData.depth]
theorem opNe_ni {xs : List D} (h : ∀ x ∈ xs, isNI x) : opNe (.tuple xs) (.tuple xs) = some (.bool false) :=
  opNe_self (by rw [PyData.plain]; exact ni_plain h) (by rw [PyData.depth, ni_depth h]; decide)
theorem opNe_niL {xs : List D} (h : ∀ x ∈ xs, isNI x) : opNe (.list xs) (.list xs) = some (.bool false) :=
  opNe_self (by rw [PyData.plain]; exact ni_plain h) (by rw [PyData.depth, ni_depth h]; decide)
end Tn
end

section
set_option Elab.async false
set_option linter.all false
set_option maxRecDepth 100000
set_option maxHeartbeats 4000000
/-! what repr shows of numbers, and of lists and tuples of such -/
namespace Tn
open PySem
mutual
def numD : D → Bool
  | .none => true
  | .bool _ => true
  | .int i => decide (i.natAbs < 10 ^ 10)
  | .list xs => numAll xs
  | .tuple xs => numAll xs
  | .str s => (PyData.str s).showable && ((PyData.str s).canLay0 && ((PyData.str s).intsShort 13 && PyData.strOk (PyData.str s).shown))
  | .dict _ => false
def numAll : List D → Bool
  | [] => true
  | x :: xs => numD x && numAll xs
end
theorem strOk_of (s : String) : PyData.strOk (Str.ofString s) = true := by
  rw [Str.ofString_eq_toList]
  unfold PyData.strOk
  rw [Array.all_eq_true']
  intro c hc
  simp only [List.mem_toArray, List.mem_map] at hc
  obtain ⟨ch, _, rfl⟩ := hc
  rw [decide_eq_true_eq]
  have := ch.valid
  show ch.val.toNat < _
  rcases this with h | h
  · have : ch.val.toNat < 0xd800 := h
    omega
  · exact h.2
theorem strOk_ap {x y : Str} (hx : PyData.strOk x = true) (hy : PyData.strOk y = true) : PyData.strOk (x ++ y) = true := by
  unfold PyData.strOk at *
  have e : (x ++ y).cps = x.cps ++ y.cps := rfl
  rw [e, Array.all_append, hx, hy]; rfl
theorem strOk_textFrom : ∀ (ts : List Str) (k : Nat) (acc : Str), PyData.strOk acc = true → (∀ t ∈ ts, PyData.strOk t = true) → PyData.strOk (textFrom k acc ts) = true
  | [], _, _, h, _ => h
  | t :: ts, k, acc, h, ht => by
    unfold textFrom
    exact strOk_textFrom ts _ _ (strOk_ap (strOk_ap h (strOk_of _)) (ht t List.mem_cons_self)) fun u hu => ht u (List.mem_cons_of_mem _ hu)
theorem strOk_join : ∀ (ts : List Str), (∀ t ∈ ts, PyData.strOk t = true) → PyData.strOk (Str.join ", " ts) = true
  | [], _ => strOk_of ""
  | [x], h => h x List.mem_cons_self
  | x :: y :: r, h => strOk_ap (strOk_ap (h x List.mem_cons_self) (strOk_of _)) (strOk_join (y :: r) fun t ht => h t (List.mem_cons_of_mem _ ht))
mutual
theorem num_facts : ∀ d : D, numD d = true → d.showable = true ∧ d.hasDict = false ∧ d.canLay0 = true ∧ d.intsShort 13 = true ∧ PyData.strOk d.shown = true
  | .none, _ => ⟨rfl, rfl, rfl, rfl, strOk_of _⟩
  | .bool b, _ => ⟨rfl, rfl, rfl, rfl, by cases b <;> exact strOk_of _⟩
  | .int i, h => by
    have h : decide (i.natAbs < 10 ^ 10) = true := h
    rw [decide_eq_true_eq] at h
    have h2 : i.natAbs.log2 < 1920 := by
      by_cases z : i.natAbs = 0
      · rw [z]; decide
      · have := (Nat.log2_lt (n := i.natAbs) (k := 40) z).mpr (by omega)
        omega
    refine ⟨decide_eq_true h2, rfl, rfl, decide_eq_true ?_, strOk_of _⟩
    have e := int_text_length_le10 (k := 10) (by decide) h
    show (Str.ofString (toString i)).length ≤ 13
    rw [ofString_length]; omega
  | .list xs, h => by
    obtain ⟨a, b, c, d, e⟩ := nums_facts xs h
    exact ⟨a, b, c, d, strOk_ap (strOk_textFrom _ _ _ (strOk_of _) e) (strOk_of _)⟩
  | .tuple xs, h => by
    obtain ⟨a, b, c, d, e⟩ := nums_facts xs h
    exact ⟨a, b, c, d, strOk_ap (strOk_ap (strOk_of _) (strOk_join _ e)) (strOk_of _)⟩
  | .str s, h => by
    have h : ((PyData.str s).showable && ((PyData.str s).canLay0 && ((PyData.str s).intsShort 13 && PyData.strOk (PyData.str s).shown))) = true := h
    simp only [Bool.and_eq_true] at h
    exact ⟨h.1, rfl, h.2.1, h.2.2.1, h.2.2.2⟩
  | .dict _, h => nomatch h
theorem nums_facts : ∀ xs : List D, numAll xs = true → PyData.showableAll xs = true ∧ PyData.hasDictAll xs = false ∧ PyData.canLayAll0 xs = true ∧ PyData.intsShortAll 13 xs = true ∧ ∀ t ∈ PyData.shownAll xs, PyData.strOk t = true
  | [], _ => ⟨rfl, rfl, rfl, rfl, fun t ht => (List.not_mem_nil ht).elim⟩
  | x :: xs, h => by
    have h : (numD x && numAll xs) = true := h
    rw [Bool.and_eq_true] at h
    obtain ⟨a, b, c, d, e⟩ := num_facts x h.1
    obtain ⟨a2, b2, c2, d2, e2⟩ := nums_facts xs h.2
    refine ⟨?_, ?_, ?_, ?_, fun t ht => ?_⟩
    · show (x.showable && PyData.showableAll xs) = true
      rw [a, a2]; rfl
    · show (x.hasDict || PyData.hasDictAll xs) = false
      rw [b, b2]; rfl
    · show (x.canLay0 && PyData.canLayAll0 xs) = true
      rw [c, c2]; rfl
    · show (x.intsShort 13 && PyData.intsShortAll 13 xs) = true
      rw [d, d2]; rfl
    · rcases List.mem_cons.mp ht with rfl | ht
      · exact e
      · exact e2 t ht
end
theorem repr_num {d : D} (h : numD d = true) (h1 : d.depth ≤ 64) (h2 : d.weight ≤ 2 ^ 20) : opRepr d = some (.str d.shown) := by
  obtain ⟨a, b, c, e, f⟩ := num_facts d h
  have l : PyData.layable0 d = true := by
    unfold PyData.layable0
    rw [c, decide_eq_true h1, decide_eq_true h2]; rfl
  have s := PyProof.Rows.shown_le13 l e
  unfold opRepr
  rw [a, b, f, decide_eq_true h1, decide_eq_true (Nat.le_trans s (by decide : 15728653 ≤ big))]
  rfl
end Tn
namespace Tn
open PySem
/-! tuples and lists of whole numbers -/
def tupI (L : List Int) : D := .tuple (L.map .int)
def lisI (L : List Int) : D := .list (L.map .int)
theorem eqvAll_ints : ∀ a b : List Int, PyData.eqvAll (a.map .int) (b.map .int) = decide (a = b)
  | [], [] => by simp [PyData.eqvAll]
  | [], _ :: _ => by simp [PyData.eqvAll]
  | _ :: _, [] => by simp [PyData.eqvAll]
  | x :: a, y :: b => by
    rw [List.map_cons, List.map_cons, PyData.eqvAll, eqvAll_ints a b]
    by_cases h : x = y
    · subst h; simp [PyData.eqv]
    · have : PyData.eqv (.int x) (.int y) = false := by simp [PyData.eqv, h]
      rw [this]; simp [h]
theorem depth_ints : ∀ a : List Int, PyData.depthAll (a.map .int) = 0
  | [] => rfl
  | x :: a => by rw [List.map_cons, PyData.depthAll, depth_ints a]; simp [PyData.depth]
theorem tupI_depth (a : List Int) : (tupI a).depth ≤ 64 := by unfold tupI; rw [PyData.depth, depth_ints]; decide
theorem lisI_depth (a : List Int) : (lisI a).depth ≤ 64 := by unfold lisI; rw [PyData.depth, depth_ints]; decide
theorem opEq_tupI (a b : List Int) : opEq (tupI a) (tupI b) = some (.bool (decide (a = b))) := by
  unfold opEq
  rw [if_pos (.inl (tupI_depth a))]
  show some (PyData.bool (PyData.eqvAll (a.map .int) (b.map .int))) = _
  rw [eqvAll_ints]
theorem opNe_tupI (a b : List Int) : opNe (tupI a) (tupI b) = some (.bool (!decide (a = b))) := by
  unfold opNe
  rw [if_pos (.inl (tupI_depth a))]
  show some (PyData.bool (!PyData.eqvAll (a.map .int) (b.map .int))) = _
  rw [eqvAll_ints]
theorem opEq_lisI (a b : List Int) : opEq (lisI a) (lisI b) = some (.bool (decide (a = b))) := by
  unfold opEq
  rw [if_pos (.inl (lisI_depth a))]
  show some (PyData.bool (PyData.eqvAll (a.map .int) (b.map .int))) = _
  rw [eqvAll_ints]
theorem opNe_lisI (a b : List Int) : opNe (lisI a) (lisI b) = some (.bool (!decide (a = b))) := by
  unfold opNe
  rw [if_pos (.inl (lisI_depth a))]
  show some (PyData.bool (!PyData.eqvAll (a.map .int) (b.map .int))) = _
  rw [eqvAll_ints]
theorem num_ints {a : List Int} (h : ∀ x ∈ a, x.natAbs < 10 ^ 10) : numAll (a.map .int) = true := by
  induction a with
  | nil => rfl
  | cons x a ih =>
    show (decide (x.natAbs < 10 ^ 10) && numAll (a.map .int)) = true
    rw [decide_eq_true (h x List.mem_cons_self), ih fun y hy => h y (List.mem_cons_of_mem _ hy)]; rfl
theorem weight_ints {a : List Int} (h : ∀ x ∈ a, x.natAbs < 10 ^ 10) : PyData.weightAll (a.map .int) ≤ a.length * 40 := by
  induction a with
  | nil => exact Nat.le_refl _
  | cons x a ih =>
    have h1 := ih fun y hy => h y (List.mem_cons_of_mem _ hy)
    have h2 := h x List.mem_cons_self
    rw [List.map_cons, PyData.weightAll, List.length_cons, Nat.succ_mul]
    have : (PyData.int x).weight ≤ 39 := by
      show (if (x == 0) = true then 0 else x.natAbs.log2 + 1) ≤ 39
      split
      · omega
      · rename_i hx
        have hx : ¬ x = 0 := fun e => hx (by rw [e]; rfl)
        have := (Nat.log2_lt (n := x.natAbs) (k := 34) (by omega)).mpr (by omega)
        omega
    omega
theorem repr_tupI {a : List Int} (h : ∀ x ∈ a, x.natAbs < 10 ^ 10) (hl : a.length ≤ 20000) : opRepr (tupI a) = some (.str (tupI a).shown) := by
  refine repr_num (num_ints h) (tupI_depth a) ?_
  have := weight_ints h
  show PyData.weightAll (a.map .int) ≤ _
  omega
theorem str_ne {x : Str} : opNe (.str x) (.str x) = some (.bool false) := opNe_self rfl (by simp [PyData.depth])
theorem big_eq' : big = 16777216 := rfl
theorem repl_one' (n : Nat) (x : D) : repl n [x] = List.replicate n x := by
  unfold repl
  induction n with
  | zero => rfl
  | succ n ih => rw [List.replicate_succ, List.flatten_cons, ih, List.replicate_succ]; rfl
theorem lrep_one {x : XE} {k : XE} {ε : Ev} {S : List D} {d : D} {n : Nat} {Q : List D → List D → Prop} {E : Ex → List D → Prop} (hn : n ≤ 10000) (hx : Wp (x ε S) (fun a S' => a = d ∧ Wp (k ε S') (fun b S2 => b = .int n ∧ Q (List.replicate n d) S2) E) E) : Wp (lRep (lDisp (xsC x xs0)) k ε S) Q E := by
  unfold lRep
  rw [wp_bnd]
  simp (implicitDefEqProofs := false) only [↓wp_sIf, ↓wp_xAnd, ↓wp_xOr, ↓R1, R2, if_true, if_false, ite_true, ite_false, has, mutL, isArg, reduceCtorEq, Int.reduceEq, Int.reduceLT, Int.reduceLE, Int.reduceNeg, Int.reduceAdd, Int.reduceSub, Int.reduceMul, Nat.reduceAdd, Nat.reduceLT, Nat.reduceSub, R3, List.reduceReplicate, Tn.wip]
  refine hx.mono (fun a S1 h1 => ?_) fun _ _ h => h
  obtain ⟨rfl, h1⟩ := h1
  refine ⟨by simp only [List.length_cons, List.length_nil]; decide, ?_⟩
  rw [wp_bnd]
  refine h1.mono (fun b S2 h2 => ?_) fun _ _ h => h
  obtain ⟨rfl, h2⟩ := h2
  have c : (decide (([a] : List D).length * (n : Int).toNat ≤ big) && decide ((n : Int) < 2 ^ 62) && decide (-(2 ^ 62) < (n : Int))) = true := by
    simp only [Bool.and_eq_true, decide_eq_true_eq, List.length_cons, List.length_nil, big_eq', Int.toNat_natCast, Nat.zero_add, Nat.one_mul, Int.reducePow]
    omega
  show Wp ((if (decide (([a] : List D).length * (n : Int).toNat ≤ big) && decide ((n : Int) < 2 ^ 62) && decide (-(2 ^ 62) < (n : Int))) = true then ret (repl (n : Int).toNat [a]) else stk) S2) Q E
  rw [if_pos c, Int.toNat_natCast, repl_one']
  exact h2
theorem gApp_ok {d : D} {xs : List D} (h : xs.length < 16777216) : gApp d xs = some (xs ++ [d]) := if_pos h
/-! comprehensions that draw -/
theorem drawn_go {i : Nat} {e : XE} {ε : Ev} (R : D → Prop) (he : ∀ x S, Box S → Wp (e ((Tn.wip ε [i]).set i (.sh x)) S) (fun y S' => R y ∧ Box S') fun _ _ => False) : ∀ (items : List D) (S : List D), Box S → Wp (compGo (.nm i) tYes e (Tn.wip ε [i]) items S) (fun ys S' => ys.length = items.length ∧ (∀ y ∈ ys, R y) ∧ Box S') fun _ _ => False
  | [], S, hS => ⟨rfl, fun y hy => (List.not_mem_nil hy).elim, hS⟩
  | x :: r, S, hS => by
    have h1 : compGo (.nm i) tYes e (Tn.wip ε [i]) (x :: r) S = (bnd (qt (e ((Tn.wip ε [i]).set i (.sh x)))) fun y => bnd (compGo (.nm i) tYes e (Tn.wip ε [i]) r) fun ys => ret (y :: ys)) S := rfl
    rw [h1, wp_bnd, wp_qt]
    refine (he x S hS).mono (fun y S1 hy => ?_) fun _ _ h => h
    rw [wp_bnd]
    refine (drawn_go R he r S1 hy.2).mono (fun ys S2 hys => ?_) fun _ _ h => h
    refine ⟨by rw [List.length_cons, hys.1, List.length_cons], fun z hz => ?_, hys.2.2⟩
    rcases List.mem_cons.mp hz with rfl | hz
    · exact hy.1
    · exact hys.2.1 z hz
theorem drawn_wp {i : Nat} {e : XE} {ε : Ev} {S : List D} {it : XL} {Q : List D → List D → Prop} {E : Ex → List D → Prop} (R : D → Prop) (hn : noOw ε [i] = true) (hi : Wp (it ε S) (fun items S' => Box S' ∧ (∀ x S, Box S → Wp (e ((Tn.wip ε [i]).set i (.sh x)) S) (fun y S' => R y ∧ Box S') fun _ _ => False) ∧ ∀ ys S2, ys.length = items.length → (∀ y ∈ ys, R y) → Box S2 → Q ys S2) E) : Wp (lComp it (.nm i) tYes e [i] ε S) Q E := by
  unfold lComp
  rw [wp_bnd]
  refine hi.mono (fun items S' hh => ?_) fun _ _ h => h
  rw [if_pos hn]
  refine (drawn_go R hh.2.1 items S' hh.1).mono (fun ys S2 hy => hh.2.2 ys S2 hy.1 hy.2.1 hy.2.2) fun _ _ h => h.elim
theorem intsD_of : ∀ {th : List D}, (∀ x ∈ th, ∃ i : Int, x = .int i) → ∃ is : List Int, th = is.map .int
  | [], _ => ⟨[], rfl⟩
  | x :: th, h => by
    obtain ⟨is, e⟩ := intsD_of fun y hy => h y (List.mem_cons_of_mem _ hy)
    obtain ⟨i, rfl⟩ := h x List.mem_cons_self
    exact ⟨i :: is, by rw [e]; rfl⟩
/-- the loop of a law's texts: closing it -/
structure Okk (P : SR → List D → Prop) (b : XS) (ε : Ev) (S : List D) : Prop where
  h : Wp (b ε S) P fun _ _ => False
theorem okk_w {P : SR → List D → Prop} {b : XS} {ε : Ev} {S : List D} (h : Okk P b ε S) : Wp (b ε S) P fun _ _ => False := h.h
abbrev PT : SR → List D → Prop := fun r _ => r = .rt (.sh (.bool true))
abbrev EF : Ex → List D → Prop := fun _ _ => False
/-! slices -/
theorem slT_in {xs : List D} {k n : Nat} (h : k + n ≤ xs.length) : opSlT (.tuple xs) (some (k : Int)) (some ((k : Int) + (n : Int))) = some (.tuple ((xs.drop k).take n)) := by
  have s1 : sIx xs.length 0 (some (k : Int)) = k := by unfold sIx; simp only []; split <;> omega
  have s2 : sIx xs.length xs.length (some ((k : Int) + (n : Int))) = k + n := by unfold sIx; simp only []; split <;> omega
  show some (PyData.tuple ((xs.drop (sIx xs.length 0 (some (k : Int)))).take (sIx xs.length xs.length (some ((k : Int) + (n : Int))) - sIx xs.length 0 (some (k : Int))))) = _
  rw [s1, s2, Nat.add_sub_cancel_left]
theorem slT_from {xs : List D} {k : Nat} (h : k ≤ xs.length) : opSlT (.tuple xs) (some (k : Int)) none = some (.tuple (xs.drop k)) := by
  have s1 : sIx xs.length 0 (some (k : Int)) = k := by unfold sIx; simp only []; split <;> omega
  show some (PyData.tuple ((xs.drop (sIx xs.length 0 (some (k : Int)))).take (xs.length - sIx xs.length 0 (some (k : Int))))) = _
  rw [s1, List.take_of_length_le (by rw [List.length_drop]; omega)]
end Tn
end

section
set_option Elab.async false
set_option linter.all false
set_option maxRecDepth 100000
set_option maxHeartbeats 1000000
namespace GK48
open PySem PySem.Spec PyProof.Rows L2 Tn
def top (i : Nat) : Stmt := PySem.Challenge.pw_tunehouse_k48_round_polynomials.main.body.getD i (.Pass ⟨0, 0, 0, 0⟩)
def c_MOST_ROUND : D := (.int 36)
abbrev s_is_number : Stmt := top 6
def b_is_number : XS := (sRet (xAnd (x1 (opIs Ty.int) (xV 0)) (xNot (tV (x1 (opIs Ty.bool) (xV 0))))))
def D_is_number : Fn := mkFn 1 1 b_is_number
abbrev s_parted : Stmt := top 9
def b_parted : XS := (sSeq (sPar2 2 3 (.n (l1 seqOf (xV 0))) (.n (lDisp xs0)))
    (sSeq (sWhile (tV (x2 opGe (x1B opLen 2) (x1 opLen (xV 1))))
    (sSeq (sPop 2 4)
    (sSeq (sApp 3 (xV 4))
    (sFor (iR1 (x2 opSub (x1 opLen (xV 1)) (xK (.int 1)))) (.nm 5)
    (sAugI 2 opSub (x2 opAdd (x2 opAdd (x2 opSub (x1B opLen 2) (x1 opLen (xV 1))) (xK (.int 1))) (xV 5)) (x2 opMul (xV 4) (x2 opIx (xV 1) (xV 5))))))))
    (sFrz 2 (sFrz 3 (sRet (xTup (xsC (x1 opRevT (xV 3)) (xsC (xV 2) xs0))))))))
def D_parted : Fn := mkFn 2 6 b_parted
abbrev s_round_of : Stmt := top 10
def b_round_of (r : Fn) : XS := (sSeq (sSet 1 (xFz (lCat (xFz (lCat (xFz (lDisp (xsC (x1 opNeg (xK (.int 1))) xs0))) (xFz (lRep (lDisp (xsC (xK (.int 0)) xs0)) (x2 opSub (xV 0) (xK (.int 1))))))) (xFz (lDisp (xsC (xK (.int 1)) xs0))))))
    (sSeq (sFor (iR2 (xK (.int 1)) (xV 0)) (.nm 2)
    (sIf (tV (x2 opEq (x2 opMod (xV 0) (xV 2)) (xK (.int 0))))
    (sSet 1 (x2 opIx (xCall D_parted (asC (aD (xV 1)) (asC (aD (xCall r (asC (aD (xV 2)) as0))) as0))) (xK (.int 0))))
    sPass))
    (sRet (xV 1))))
def R_round_of : Nat → Fn
  | 0 => noF
  | n + 1 => mkFn 1 3 (b_round_of (R_round_of n))
def D_round_of : Fn := R_round_of 12
abbrev s_round_polynomial : Stmt := top 11
def b_round_polynomial : XS := (sSeq (sIf (tOr (tNot (tV (xCall D_is_number (asC (aD (xV 0)) as0)))) (tNot (tChn opLe opLe (xK (.int 1)) (xV 0) (xK c_MOST_ROUND))))
    (sRaise .bad)
    sPass)
    (sRet (x1 opTuple (xCall D_round_of (asC (aD (xV 0)) as0)))))
def D_round_polynomial : Fn := mkFn 1 1 b_round_polynomial
abbrev s__law_box : Stmt := top 13
def b__law_box : XS := (sRetA (aNew (lDisp (xsC (xK (.int 0)) (xsC (xK (.int 0)) (xsC (xK (.int 0)) (xsC (xFz (lComp (iSc 0) (.nm 1) tYes (x1 opAbs (x1 opInt (xV 1))) [1])) xs0)))))))
def D__law_box : Fn := mkFn 1 2 b__law_box
abbrev s__law_take : Stmt := top 14
def b__law_take : XS := (sSeq (sIf (tV (x2 opEq (x2L opIx 0 (xK (.int 1))) (xK (.int 0))))
    (sSeq (sSet 2 (x2L opIx 0 (xK (.int 2))))
    (sSeq (sSet 3 (xK (.int 0)))
    (sSeq (sIf (tV (x2 opLt (xV 2) (x1 opLen (x2L opIx 0 (xK (.int 3))))))
    (sSeq (sSet 3 (x2 opIx (x2L opIx 0 (xK (.int 3))) (xV 2)))
    (sPut 0 (xK (.int 1)) (xIf (tV (x2 opGe (xV 3) (x2 opPow (xK (.int 10)) (xK (.int 18))))) (xK (.int 60)) (x1 opNeg (xK (.int 9))))))
    sPass)
    (sSeq (sPut 0 (xK (.int 2)) (x2 opAdd (xV 2) (xK (.int 1))))
    (sSeq (sPut 0 (xK (.int 0)) (xV 3))
    (sIf (tV (x2 opEq (x2L opIx 0 (xK (.int 1))) (xK (.int 0))))
    (sRet (xK (.int 0)))
    sPass))))))
    sPass)
    (sSeq (sIf (tV (x2 opGt (x2L opIx 0 (xK (.int 1))) (xK (.int 0))))
    (sSeq (sSet 4 (x2 opMod (x1 opInt (x2L opIx 0 (xK (.int 0)))) (xV 1)))
    (sSeq (sPut 0 (xK (.int 0)) (x2 opFd (x2L opIx 0 (xK (.int 0))) (xV 1)))
    (sSeq (sPut 0 (xK (.int 1)) (xIf (tV (x2 opGt (x2L opIx 0 (xK (.int 0))) (xK (.int 0)))) (x2 opSub (x2L opIx 0 (xK (.int 1))) (xK (.int 1))) (xK (.int 0))))
    (sRet (xV 4)))))
    sPass)
    (sSeq (sPut 0 (xK (.int 1)) (x2 opAdd (x2L opIx 0 (xK (.int 1))) (xK (.int 1))))
    (sSeq (sPut 0 (xK (.int 0)) (x2 opMod (x1 opInt (x2 opAdd (x2 opMul (x2L opIx 0 (xK (.int 0))) (xK (.int 48271))) (x2 opMul (xK (.int 69621)) (x2 opAdd (x2L opIx 0 (xK (.int 1))) (xK (.int 20)))))) (xK (.int 2147483647))))
    (sRet (x2 opMod (x2 opMod (x1 opInt (x2 opAdd (x2 opFd (x2L opIx 0 (xK (.int 0))) (xK (.int 7))) (x2L opIx 0 (xK (.int 0))))) (xK (.int 1000003))) (xV 1)))))))
def D__law_take : Fn := mkFn 2 5 b__law_take
abbrev s__law_pick : Stmt := top 15
def b__law_pick : XS := (sRet (x2 opIx (xV 1) (xCall D__law_take (asC (aR 0) (asC (aD (x1 opLen (xV 1))) as0)))))
def D__law_pick : Fn := mkFn 2 2 b__law_pick
abbrev s__law_common : Stmt := top 16
def b__law_common : XS := (sSeq (sPar2 0 1 (.v (x1 opAbs (xV 0))) (.v (x1 opAbs (xV 1))))
    (sSeq (sWhile (tV (x2 opGt (xV 1) (xK (.int 0))))
    (sPar2 0 1 (.v (xV 1)) (.v (x2 opMod (xV 0) (xV 1)))))
    (sRet (xV 0))))
def D__law_common : Fn := mkFn 2 2 b__law_common
abbrev s__law_whole : Stmt := top 17
def b__law_whole : XS := (sRet (xAnd (x1 (opIs Ty.int) (xV 0)) (xNot (tV (x1 (opIs Ty.bool) (xV 0))))))
def D__law_whole : Fn := mkFn 1 1 b__law_whole
abbrev s__law_word : Stmt := top 18
def r__law_word : List (Ex × D) := [(.bad, .str "bad"), (.notso, .str "so"), (.much, .str "much")]
def o__law_word : D := .str "none"
abbrev s__law_by : Stmt := top 20
def b__law_by : XS := (sSeq (sPar2 0 2 (.n (l1 seqOf (xV 0))) (.n (lDisp xs0)))
    (sSeq (sFor (iRm (x2 opSub (x1B opLen 0) (x1 opLen (xV 1))) (x1 opNeg (xK (.int 1))) (x1 opNeg (xK (.int 1)))) (.nm 3)
    (sSeq (sSet 4 (x2L opIx 0 (x2 opSub (x2 opAdd (xV 3) (x1 opLen (xV 1))) (xK (.int 1)))))
    (sSeq (sIns 2 (xK (.int 0)) (xV 4))
    (sFor (iR1 (x1 opLen (xV 1))) (.nm 5)
    (sPut 0 (x2 opAdd (xV 3) (xV 5)) (x2 opSub (x2L opIx 0 (x2 opAdd (xV 3) (xV 5))) (x2 opMul (xV 4) (x2 opIx (xV 1) (xV 5)))))))))
    (sFrz 0 (sFrz 2 (sRet (xTup (xsC (xV 2) (xsC (xV 0) xs0))))))))
def D__law_by : Fn := mkFn 2 6 b__law_by
abbrev s__law_round : Stmt := top 19
def b__law_round (r : Fn) : XS := (sSeq (sSet 1 (xFz (lCat (xFz (lCat (xFz (lDisp (xsC (x1 opNeg (xK (.int 1))) xs0))) (xFz (lRep (lDisp (xsC (xK (.int 0)) xs0)) (x2 opSub (xV 0) (xK (.int 1))))))) (xFz (lDisp (xsC (xK (.int 1)) xs0))))))
    (sSeq (sFor (iR2 (xK (.int 1)) (xV 0)) (.nm 2)
    (sIf (tV (x2 opEq (x2 opMod (xV 0) (xV 2)) (xK (.int 0))))
    (sSet 1 (x2 opIx (xCall D__law_by (asC (aD (xV 1)) (asC (aD (xCall r (asC (aD (xV 2)) as0))) as0))) (xK (.int 0))))
    sPass))
    (sRet (xV 1))))
def R__law_round : Nat → Fn
  | 0 => noF
  | n + 1 => mkFn 1 3 (b__law_round (R__law_round n))
def D__law_round : Fn := R__law_round 12
abbrev s__law_times : Stmt := top 21
def b__law_times : XS := (sSeq (sOwn 2 (lRep (lDisp (xsC (xK (.int 0)) xs0)) (x2 opSub (x2 opAdd (x1 opLen (xV 0)) (x1 opLen (xV 1))) (xK (.int 1)))))
    (sSeq (sFor (iR1 (x1 opLen (xV 0))) (.nm 3)
    (sFor (iR1 (x1 opLen (xV 1))) (.nm 4)
    (sPut 2 (x2 opAdd (xV 3) (xV 4)) (x2 opAdd (x2L opIx 2 (x2 opAdd (xV 3) (xV 4))) (x2 opMul (x2 opIx (xV 0) (xV 3)) (x2 opIx (xV 1) (xV 4)))))))
    (sFrz 2 (sRet (xV 2)))))
def D__law_times : Fn := mkFn 2 5 b__law_times
abbrev s_law : Stmt := top 22
def b_law : XS := (sSeq (sAsg 1 (aCall D__law_box (asC (aS 0) as0)))
    (sSeq (sSet 2 (x2 opAdd (xK (.int 1)) (xCall D__law_take (asC (aR 1) (asC (aD (xK (.int 36))) as0)))))
    (sSeq (sSet 3 (xCall D_round_polynomial (asC (aD (xV 2)) as0)))
    (sSeq (sIf (tOr (tNot (tV (x1 (opIs Ty.tuple) (xV 3)))) (tOr (tV (x2 opNe (xFz (lComp (iSeq (xV 3)) (.nm 4) (tNot (tV (xCall D__law_whole (asC (aD (xV 4)) as0)))) (xV 4) [4])) (xFz (lDisp xs0)))) (tOr (tV (x2 opNe (x2 opIx (xV 3) (x1 opNeg (xK (.int 1)))) (xK (.int 1)))) (tV (x2 opNe (xFz (l1 seqOf (xV 3))) (xCall D__law_round (asC (aD (xV 2)) as0)))))))
    (sRet (xK (.bool false)))
    sPass)
    (sSeq (sIf (tV (x2 opNe (x2 opSub (x1 opLen (xV 3)) (xK (.int 1))) (x1 opLen (xFz (lComp (iR2 (xK (.int 1)) (x2 opAdd (xV 2) (xK (.int 1)))) (.nm 5) (tV (x2 opEq (xCall D__law_common (asC (aD (xV 5)) (asC (aD (xV 2)) as0))) (xK (.int 1)))) (xV 5) [5])))))
    (sRet (xK (.bool false)))
    sPass)
    (sSeq (sSet 6 (xFz (lDisp (xsC (xK (.int 1)) xs0))))
    (sSeq (sFor (iR2 (xK (.int 1)) (x2 opAdd (xV 2) (xK (.int 1)))) (.nm 7)
    (sIf (tV (x2 opEq (x2 opMod (xV 2) (xV 7)) (xK (.int 0))))
    (sSet 6 (xCall D__law_times (asC (aD (xV 6)) (asC (aD (xFz (l1 seqOf (xCall D_round_polynomial (asC (aD (xV 7)) as0))))) as0))))
    sPass))
    (sSeq (sIf (tV (x2 opNe (xV 6) (xFz (lCat (xFz (lCat (xFz (lDisp (xsC (x1 opNeg (xK (.int 1))) xs0))) (xFz (lRep (lDisp (xsC (xK (.int 0)) xs0)) (x2 opSub (xV 2) (xK (.int 1))))))) (xFz (lDisp (xsC (xK (.int 1)) xs0)))))))
    (sRet (xK (.bool false)))
    sPass)
    (sSeq (sSet 8 (xFz (lComp (iR2 (xK (.int 2)) (x2 opAdd (xV 2) (xK (.int 1)))) (.nm 9) (tAnd (tV (x2 opEq (x2 opMod (xV 2) (xV 9)) (xK (.int 0)))) (tV (x2 opEq (xFz (lComp (iR2 (xK (.int 2)) (xV 9)) (.nm 10) (tV (x2 opEq (x2 opMod (xV 9) (xV 10)) (xK (.int 0)))) (xV 10) [10])) (xFz (lDisp xs0))))) (xV 9) [9])))
    (sSeq (sIf (tOr (tV (x2 opNe (x1 opSum (xV 3)) (xIf (tV (x2 opEq (xV 2) (xK (.int 1)))) (xK (.int 0)) (xIf (tV (x2 opEq (x1 opLen (xV 8)) (xK (.int 1)))) (x2 opIx (xV 8) (xK (.int 0))) (xK (.int 1)))))) (tAnd (tV (x2 opGt (xV 2) (xK (.int 1)))) (tV (x2 opNe (xV 3) (x1 opRevT (xV 3))))))
    (sRet (xK (.bool false)))
    sPass)
    (sSeq (sIf (tOr (tV (x2 opNe (xCall D_round_polynomial (asC (aD (xK (.int 12))) as0)) (xTup (xsC (xK (.int 1)) (xsC (xK (.int 0)) (xsC (x1 opNeg (xK (.int 1))) (xsC (xK (.int 0)) (xsC (xK (.int 1)) xs0)))))))) (tV (x2 opNe (xCall D_round_polynomial (asC (aD (xK (.int 30))) as0)) (xTup (xsC (xK (.int 1)) (xsC (xK (.int 1)) (xsC (xK (.int 0)) (xsC (x1 opNeg (xK (.int 1))) (xsC (x1 opNeg (xK (.int 1))) (xsC (x1 opNeg (xK (.int 1))) (xsC (xK (.int 0)) (xsC (xK (.int 1)) (xsC (xK (.int 1)) xs0)))))))))))))
    (sRet (xK (.bool false)))
    sPass)
    (sRet (x2 opEq (xLam (refusal o__law_word r__law_word) (xCall D_round_polynomial (asC (aD (xCall D__law_pick (asC (aR 1) (asC (aD (xFz (lDisp (xsC (xK (.int 0)) (xsC (xK (.int 37)) (xsC (x1 opNeg (xK (.int 1))) (xsC (xK (.bool true)) (xsC (xK .none) (xsC (xK (.str "3")) xs0))))))))) as0)))) as0))) (xK (.str "bad")))))))))))))))
def D_law : Fn := mkFn 1 11 b_law
structure Bm (mg : Str → Option Value) : Prop where
  b_abs : mg "abs" = none
  b_bool : mg "bool" = none
  b_int : mg "int" = none
  b_isinstance : mg "isinstance" = none
  b_len : mg "len" = none
  b_list : mg "list" = none
  b_range : mg "range" = none
  b_sum : mg "sum" = none
  b_tuple : mg "tuple" = none
section
variable [TB] {P : Program} {w : World} {K : PySem.W.Frag} {mg : Str → Option Value} {base : Heap} {C : Ex → Addr}
theorem sc_is_number : FnScope ["x"] ["x"] (defScope s_is_number) := ⟨rfl, rfl, rfl, by decide +kernel, rfl, by decide +kernel, by decide +kernel⟩
set_option maxHeartbeats 4000000 in
theorem ok_is_number {f : Addr} {fd : FuncData} (B : Bm mg)  (F : Fun K "is_number" "is_number" s_is_number f fd) (hm : mg "is_number" = some (.ref f)) : FnD P w K mg base 1 "is_number" ["x"] D_is_number := by
  have S := sc_is_number
  refine fnd_ofA F hm (F.binds fun _ _ _ _ _ _ us hl => match us, hl with | [_], _ => rfl) (fn_D F S rfl rfl fun cdv A outer s H E hr => ?_)
  have tk : Takes (cxOf (L2.CX P w) P w K mg base ["x"] "is_number" (defScope s_is_number) f cdv A outer s H E) (fun cls d _ H => E cls d H) := takes_of rfl rfl rfl rfl
  have po : PassesOwn (model P w) (A.deeper (envOfC "is_number" (defScope s_is_number) s.heap.objs.size f cdv)) (envOfC "is_number" (defScope s_is_number) s.heap.objs.size f cdv) (cxOf (L2.CX P w) P w K mg base ["x"] "is_number" (defScope s_is_number) f cdv A outer s H E).xe := passes_of rfl
  have hu : (A.deeper (envOfC "is_number" (defScope s_is_number) s.heap.objs.size f cdv)).units + 100 < cLine := by have := hr.un; omega
  exact (dss_one (ds_ret (de_and (de_isi (t := Ty.int) rfl B.b_isinstance rfl B.b_int (by decide +kernel) (de_v rfl (.inl rfl))) (de_and1 (de_not (de_isi (t := Ty.bool) rfl B.b_isinstance rfl B.b_bool (by decide +kernel) (de_v rfl (.inl rfl))))))))
theorem sc_parted : FnScope ["f", "g", "rest", "out", "by", "k"] ["f", "g"] (defScope s_parted) := ⟨rfl, rfl, rfl, by decide +kernel, rfl, by decide +kernel, by decide +kernel⟩
set_option maxHeartbeats 4000000 in
theorem ok_parted {f : Addr} {fd : FuncData} (B : Bm mg)  (F : Fun K "parted" "parted" s_parted f fd) (hm : mg "parted" = some (.ref f)) : FnD P w K mg base 1 "parted" ["f", "g"] D_parted := by
  have S := sc_parted
  refine fnd_ofA F hm (F.binds fun _ _ _ _ _ _ us hl => match us, hl with | [_, _], _ => rfl) (fn_D F S rfl rfl fun cdv A outer s H E hr => ?_)
  have tk : Takes (cxOf (L2.CX P w) P w K mg base ["f", "g", "rest", "out", "by", "k"] "parted" (defScope s_parted) f cdv A outer s H E) (fun cls d _ H => E cls d H) := takes_of rfl rfl rfl rfl
  have po : PassesOwn (model P w) (A.deeper (envOfC "parted" (defScope s_parted) s.heap.objs.size f cdv)) (envOfC "parted" (defScope s_parted) s.heap.objs.size f cdv) (cxOf (L2.CX P w) P w K mg base ["f", "g", "rest", "out", "by", "k"] "parted" (defScope s_parted) f cdv A outer s H E).xe := passes_of rfl
  have hu : (A.deeper (envOfC "parted" (defScope s_parted) s.heap.objs.size f cdv)).units + 100 < cLine := by have := hr.un; omega
  exact (dss_cons (ds_par2 rfl S.nd rfl rfl (by decide) rfl rfl (.n (dl_t1 od_list rfl B.b_list (by decide +kernel) (de_v rfl (.inl rfl)))) (.n (dl_disp des_nil)) rfl)
    (dss_cons (ds_while po (dt_cmp hb_ge (od_ge hu) (de_c1B od_len rfl B.b_len (by decide +kernel) (pvar rfl (.inl rfl))) (de_c1 od_len rfl B.b_len (by decide +kernel) (de_v rfl (.inl rfl))) (nomark _))
    (dss_cons (ds_pop S.nd rfl (.inl rfl) (pvar rfl (.inl rfl)))
    (dss_cons (ds_app (pvar rfl (.inl rfl)) (de_v rfl (.inl rfl)))
    (dss_one (ds_for rfl po (di_r1 rfl B.b_range (de_x2 od_sub (de_c1 od_len rfl B.b_len (by decide +kernel) (de_v rfl (.inl rfl))) de_int)) (dg_nm S.nd rfl (.inl rfl))
    (dss_one (ds_augI (pvar rfl (.inl rfl)) (de_x2 od_add (de_x2 od_add (de_x2 od_sub (de_c1B od_len rfl B.b_len (by decide +kernel) (pvar rfl (.inl rfl))) (de_c1 od_len rfl B.b_len (by decide +kernel) (de_v rfl (.inl rfl)))) de_int) (de_v rfl (.inl rfl))) (de_x2 od_mul (de_v rfl (.inl rfl)) (de_ix od_ix (de_v rfl (.inl rfl)) (de_v rfl (.inl rfl)) fun _ _ => rfl)) od_isub (fun _ _ _ => rfl))))))))
    (dss_frz (dss_frz (dss_one (ds_ret (de_tup (des_cons (de_rev (de_v rfl (.inl rfl))) (des_cons (de_v rfl (.inl rfl)) des_nil)))))))))
theorem sc_round_of : FnScope ["d", "row", "e"] ["d"] (defScope s_round_of) := ⟨rfl, rfl, rfl, by decide +kernel, rfl, by decide +kernel, by decide +kernel⟩
set_option maxHeartbeats 4000000 in
theorem okr_round_of {f : Addr} {fd : FuncData} (B : Bm mg) (h_parted : FnD P w K mg base 1 "parted" ["f", "g"] D_parted) (F : Fun K "round_of" "round_of" s_round_of f fd) (hm : mg "round_of" = some (.ref f)) : ∀ n : Nat, FnD P w K mg base (1 + n) "round_of" ["d"] (R_round_of n) := by
  intro n
  induction n with
  | zero => exact fnd_ofA F hm (F.binds fun _ _ _ _ _ _ us hl => match us, hl with | [_], _ => rfl) fnok_no
  | succ n h_round_of =>
    show FnD P w K mg base (1 + n + 1) "round_of" ["d"] (R_round_of (n + 1))
    have S := sc_round_of
    refine fnd_ofA F hm (F.binds fun _ _ _ _ _ _ us hl => match us, hl with | [_], _ => rfl) (fn_D F S rfl rfl fun cdv A outer s H E hr => ?_)
    have tk : Takes (cxOf (L2.CX P w) P w K mg base ["d", "row", "e"] "round_of" (defScope s_round_of) f cdv A outer s H E) (fun cls d _ H => E cls d H) := takes_of rfl rfl rfl rfl
    have po : PassesOwn (model P w) (A.deeper (envOfC "round_of" (defScope s_round_of) s.heap.objs.size f cdv)) (envOfC "round_of" (defScope s_round_of) s.heap.objs.size f cdv) (cxOf (L2.CX P w) P w K mg base ["d", "row", "e"] "round_of" (defScope s_round_of) f cdv A outer s H E).xe := passes_of rfl
    have hu : (A.deeper (envOfC "round_of" (defScope s_round_of) s.heap.objs.size f cdv)).units + 100 < cLine := by have := hr.un; omega
    exact (dss_cons (ds_set S.nd rfl (.inl rfl) (de_fz (dl_cat (de_fz (dl_cat (de_fz (dl_disp (des_cons (de_un od_neg de_int) des_nil))) (de_fz (dl_rep (dl_disp (des_cons de_int des_nil)) (de_x2 od_sub (de_v rfl (.inl rfl)) de_int))))) (de_fz (dl_disp (des_cons de_int des_nil))))))
      (dss_cons (ds_for rfl po (di_r2 rfl B.b_range de_int (de_v rfl (.inl rfl))) (dg_nm S.nd rfl (.inl rfl))
      (dss_one (ds_if (dt_cmp hb_eq (od_eq hu) (de_x2 od_mod (de_v rfl (.inl rfl)) (de_v rfl (.inl rfl))) de_int (nomark _))
      (dss_one (ds_set S.nd rfl (.inl rfl) (de_ix od_ix (de_call tk hr (h_parted.up (by omega)) rfl (das_cons (da_d (de_v rfl (.inl rfl))) (das_cons (da_d (de_call tk hr (h_round_of.up (by omega)) rfl (das_cons (da_d (de_v rfl (.inl rfl))) das_nil))) das_nil))) de_int fun _ _ => rfl)))
      dss_nil)))
      (dss_one (ds_ret (de_v rfl (.inl rfl))))))
theorem ok_round_of {f : Addr} {fd : FuncData} (B : Bm mg) (h_parted : FnD P w K mg base 1 "parted" ["f", "g"] D_parted) (F : Fun K "round_of" "round_of" s_round_of f fd) (hm : mg "round_of" = some (.ref f)) : FnD P w K mg base 13 "round_of" ["d"] D_round_of := okr_round_of B h_parted F hm 12
theorem sc_round_polynomial : FnScope ["d"] ["d"] (defScope s_round_polynomial) := ⟨rfl, rfl, rfl, by decide +kernel, rfl, by decide +kernel, by decide +kernel⟩
set_option maxHeartbeats 4000000 in
theorem ok_round_polynomial {f : Addr} {fd : FuncData} (B : Bm mg) (M : ExM K mg C [.bad, .notso, .much]) (m_MOST_ROUND : CoD K mg "MOST_ROUND" c_MOST_ROUND) (h_is_number : FnD P w K mg base 1 "is_number" ["x"] D_is_number) (h_round_of : FnD P w K mg base 13 "round_of" ["d"] D_round_of) (F : Fun K "round_polynomial" "round_polynomial" s_round_polynomial f fd) (hm : mg "round_polynomial" = some (.ref f)) : FnD P w K mg base 14 "round_polynomial" ["d"] D_round_polynomial := by
  have S := sc_round_polynomial
  refine fnd_ofA F hm (F.binds fun _ _ _ _ _ _ us hl => match us, hl with | [_], _ => rfl) (fn_D F S rfl rfl fun cdv A outer s H E hr => ?_)
  have tk : Takes (cxOf (L2.CX P w) P w K mg base ["d"] "round_polynomial" (defScope s_round_polynomial) f cdv A outer s H E) (fun cls d _ H => E cls d H) := takes_of rfl rfl rfl rfl
  have po : PassesOwn (model P w) (A.deeper (envOfC "round_polynomial" (defScope s_round_polynomial) s.heap.objs.size f cdv)) (envOfC "round_polynomial" (defScope s_round_polynomial) s.heap.objs.size f cdv) (cxOf (L2.CX P w) P w K mg base ["d"] "round_polynomial" (defScope s_round_polynomial) f cdv A outer s H E).xe := passes_of rfl
  have hu : (A.deeper (envOfC "round_polynomial" (defScope s_round_polynomial) s.heap.objs.size f cdv)).units + 100 < cLine := by have := hr.un; omega
  exact (dss_cons (ds_if (dt_bool (dw_or (dt_not (dt_v (de_call tk hr (h_is_number.up (by decide)) rfl (das_cons (da_d (de_v rfl (.inl rfl))) das_nil)))) (dw_or1 (dt_not (dt_chn (od_le hu) (od_le hu) de_int (de_v rfl (.inl rfl)) (de_c m_MOST_ROUND rfl))))))
    (dss_one (ds_raise (e := .bad) rfl tk M rfl rfl))
    dss_nil)
    (dss_one (ds_ret (de_t1 od_tuple rfl B.b_tuple (by decide +kernel) (de_call tk hr (h_round_of.up (by decide)) rfl (das_cons (da_d (de_v rfl (.inl rfl))) das_nil))))))
theorem sc__law_box : FnScope ["script", "x"] ["script"] (defScope s__law_box) := ⟨rfl, rfl, rfl, by decide +kernel, rfl, by decide +kernel, by decide +kernel⟩
set_option maxHeartbeats 4000000 in
theorem ok__law_box {f : Addr} {fd : FuncData} (B : Bm mg)  (F : Fun K "_law_box" "_law_box" s__law_box f fd) (hm : mg "_law_box" = some (.ref f)) : FnD P w K mg base 1 "_law_box" ["script"] D__law_box := by
  have S := sc__law_box
  refine fnd_ofA F hm (F.binds fun _ _ _ _ _ _ us hl => match us, hl with | [_], _ => rfl) (fn_D F S rfl rfl fun cdv A outer s H E hr => ?_)
  have tk : Takes (cxOf (L2.CX P w) P w K mg base ["script", "x"] "_law_box" (defScope s__law_box) f cdv A outer s H E) (fun cls d _ H => E cls d H) := takes_of rfl rfl rfl rfl
  have po : PassesOwn (model P w) (A.deeper (envOfC "_law_box" (defScope s__law_box) s.heap.objs.size f cdv)) (envOfC "_law_box" (defScope s__law_box) s.heap.objs.size f cdv) (cxOf (L2.CX P w) P w K mg base ["script", "x"] "_law_box" (defScope s__law_box) f cdv A outer s H E).xe := passes_of rfl
  have hu : (A.deeper (envOfC "_law_box" (defScope s__law_box) s.heap.objs.size f cdv)).units + 100 < cLine := by have := hr.un; omega
  exact (dss_one (ds_retA (ret_new (dl_disp (des_cons de_int (des_cons de_int (des_cons de_int (des_cons (de_fz (dl_comp rfl S.nd (own := [("x", 1)]) (di_sc (pvar rfl (.inl rfl))) (blkOk_by rfl) (by decide) (fun s H C cl fp => (dg_nm S.nd rfl (.inl rfl))) (fun s H C cl fp => dts_nil) (fun s H C cl fp => (de_c1 od_abs rfl B.b_abs (by decide +kernel) (de_t1 od_int rfl B.b_int (by decide +kernel) (de_v rfl (.inl rfl))))))) des_nil))))))))
theorem sc__law_take : FnScope ["box", "m", "at", "cell", "told"] ["box", "m"] (defScope s__law_take) := ⟨rfl, rfl, rfl, by decide +kernel, rfl, by decide +kernel, by decide +kernel⟩
set_option maxHeartbeats 4000000 in
theorem ok__law_take {f : Addr} {fd : FuncData} (B : Bm mg)  (F : Fun K "_law_take" "_law_take" s__law_take f fd) (hm : mg "_law_take" = some (.ref f)) : FnD P w K mg base 1 "_law_take" ["box", "m"] D__law_take := by
  have S := sc__law_take
  refine fnd_ofA F hm (F.binds fun _ _ _ _ _ _ us hl => match us, hl with | [_, _], _ => rfl) (fn_D F S rfl rfl fun cdv A outer s H E hr => ?_)
  have tk : Takes (cxOf (L2.CX P w) P w K mg base ["box", "m", "at", "cell", "told"] "_law_take" (defScope s__law_take) f cdv A outer s H E) (fun cls d _ H => E cls d H) := takes_of rfl rfl rfl rfl
  have po : PassesOwn (model P w) (A.deeper (envOfC "_law_take" (defScope s__law_take) s.heap.objs.size f cdv)) (envOfC "_law_take" (defScope s__law_take) s.heap.objs.size f cdv) (cxOf (L2.CX P w) P w K mg base ["box", "m", "at", "cell", "told"] "_law_take" (defScope s__law_take) f cdv A outer s H E).xe := passes_of rfl
  have hu : (A.deeper (envOfC "_law_take" (defScope s__law_take) s.heap.objs.size f cdv)).units + 100 < cLine := by have := hr.un; omega
  exact (dss_cons (ds_if (dt_cmp hb_eq (od_eq hu) (de_ixL od_ix (pvar rfl (.inl rfl)) de_int fun _ _ => rfl) de_int (nomark _))
    (dss_cons (ds_set S.nd rfl (.inl rfl) (de_ixL od_ix (pvar rfl (.inl rfl)) de_int fun _ _ => rfl))
    (dss_cons (ds_set S.nd rfl (.inl rfl) de_int)
    (dss_cons (ds_if (dt_cmp hb_lt (od_lt hu) (de_v rfl (.inl rfl)) (de_c1 od_len rfl B.b_len (by decide +kernel) (de_ixL od_ix (pvar rfl (.inl rfl)) de_int fun _ _ => rfl)) (nomark _))
    (dss_cons (ds_set S.nd rfl (.inl rfl) (de_ix od_ix (de_ixL od_ix (pvar rfl (.inl rfl)) de_int fun _ _ => rfl) (de_v rfl (.inl rfl)) fun _ _ => rfl))
    (dss_one (ds_put2 (pvar rfl (.inl rfl)) de_int (de_if (dt_cmp hb_ge (od_ge hu) (de_v rfl (.inl rfl)) (de_x2 od_pow de_int de_int) (nomark _)) de_int (de_un od_neg de_int)) rfl rfl rfl)))
    dss_nil)
    (dss_cons (ds_put2 (pvar rfl (.inl rfl)) de_int (de_x2 od_add (de_v rfl (.inl rfl)) de_int) rfl rfl rfl)
    (dss_cons (ds_put2 (pvar rfl (.inl rfl)) de_int (de_v rfl (.inl rfl)) rfl rfl rfl)
    (dss_one (ds_if (dt_cmp hb_eq (od_eq hu) (de_ixL od_ix (pvar rfl (.inl rfl)) de_int fun _ _ => rfl) de_int (nomark _))
    (dss_one (ds_ret de_int))
    dss_nil)))))))
    dss_nil)
    (dss_cons (ds_if (dt_cmp hb_gt (od_gt hu) (de_ixL od_ix (pvar rfl (.inl rfl)) de_int fun _ _ => rfl) de_int (nomark _))
    (dss_cons (ds_set S.nd rfl (.inl rfl) (de_x2 od_mod (de_t1 od_int rfl B.b_int (by decide +kernel) (de_ixL od_ix (pvar rfl (.inl rfl)) de_int fun _ _ => rfl)) (de_v rfl (.inl rfl))))
    (dss_cons (ds_put2 (pvar rfl (.inl rfl)) de_int (de_x2 od_fd (de_ixL od_ix (pvar rfl (.inl rfl)) de_int fun _ _ => rfl) (de_v rfl (.inl rfl))) rfl rfl rfl)
    (dss_cons (ds_put2 (pvar rfl (.inl rfl)) de_int (de_if (dt_cmp hb_gt (od_gt hu) (de_ixL od_ix (pvar rfl (.inl rfl)) de_int fun _ _ => rfl) de_int (nomark _)) (de_x2 od_sub (de_ixL od_ix (pvar rfl (.inl rfl)) de_int fun _ _ => rfl) de_int) de_int) rfl rfl rfl)
    (dss_one (ds_ret (de_v rfl (.inl rfl)))))))
    dss_nil)
    (dss_cons (ds_put2 (pvar rfl (.inl rfl)) de_int (de_x2 od_add (de_ixL od_ix (pvar rfl (.inl rfl)) de_int fun _ _ => rfl) de_int) rfl rfl rfl)
    (dss_cons (ds_put2 (pvar rfl (.inl rfl)) de_int (de_x2 od_mod (de_t1 od_int rfl B.b_int (by decide +kernel) (de_x2 od_add (de_x2 od_mul (de_ixL od_ix (pvar rfl (.inl rfl)) de_int fun _ _ => rfl) de_int) (de_x2 od_mul de_int (de_x2 od_add (de_ixL od_ix (pvar rfl (.inl rfl)) de_int fun _ _ => rfl) de_int)))) de_int) rfl rfl rfl)
    (dss_one (ds_ret (de_x2 od_mod (de_x2 od_mod (de_t1 od_int rfl B.b_int (by decide +kernel) (de_x2 od_add (de_x2 od_fd (de_ixL od_ix (pvar rfl (.inl rfl)) de_int fun _ _ => rfl) de_int) (de_ixL od_ix (pvar rfl (.inl rfl)) de_int fun _ _ => rfl))) de_int) (de_v rfl (.inl rfl)))))))))
theorem sc__law_pick : FnScope ["box", "menu"] ["box", "menu"] (defScope s__law_pick) := ⟨rfl, rfl, rfl, by decide +kernel, rfl, by decide +kernel, by decide +kernel⟩
set_option maxHeartbeats 4000000 in
theorem ok__law_pick {f : Addr} {fd : FuncData} (B : Bm mg) (h__law_take : FnD P w K mg base 1 "_law_take" ["box", "m"] D__law_take) (F : Fun K "_law_pick" "_law_pick" s__law_pick f fd) (hm : mg "_law_pick" = some (.ref f)) : FnD P w K mg base 2 "_law_pick" ["box", "menu"] D__law_pick := by
  have S := sc__law_pick
  refine fnd_ofA F hm (F.binds fun _ _ _ _ _ _ us hl => match us, hl with | [_, _], _ => rfl) (fn_D F S rfl rfl fun cdv A outer s H E hr => ?_)
  have tk : Takes (cxOf (L2.CX P w) P w K mg base ["box", "menu"] "_law_pick" (defScope s__law_pick) f cdv A outer s H E) (fun cls d _ H => E cls d H) := takes_of rfl rfl rfl rfl
  have po : PassesOwn (model P w) (A.deeper (envOfC "_law_pick" (defScope s__law_pick) s.heap.objs.size f cdv)) (envOfC "_law_pick" (defScope s__law_pick) s.heap.objs.size f cdv) (cxOf (L2.CX P w) P w K mg base ["box", "menu"] "_law_pick" (defScope s__law_pick) f cdv A outer s H E).xe := passes_of rfl
  have hu : (A.deeper (envOfC "_law_pick" (defScope s__law_pick) s.heap.objs.size f cdv)).units + 100 < cLine := by have := hr.un; omega
  exact (dss_one (ds_ret (de_ix od_ix (de_v rfl (.inl rfl)) (de_call tk hr (h__law_take.up (by decide)) rfl (das_cons (da_r (pvar rfl (.inl rfl))) (das_cons (da_d (de_c1 od_len rfl B.b_len (by decide +kernel) (de_v rfl (.inl rfl)))) das_nil))) fun _ _ => rfl)))
theorem sc__law_common : FnScope ["a", "b"] ["a", "b"] (defScope s__law_common) := ⟨rfl, rfl, rfl, by decide +kernel, rfl, by decide +kernel, by decide +kernel⟩
set_option maxHeartbeats 4000000 in
theorem ok__law_common {f : Addr} {fd : FuncData} (B : Bm mg)  (F : Fun K "_law_common" "_law_common" s__law_common f fd) (hm : mg "_law_common" = some (.ref f)) : FnD P w K mg base 1 "_law_common" ["a", "b"] D__law_common := by
  have S := sc__law_common
  refine fnd_ofA F hm (F.binds fun _ _ _ _ _ _ us hl => match us, hl with | [_, _], _ => rfl) (fn_D F S rfl rfl fun cdv A outer s H E hr => ?_)
  have tk : Takes (cxOf (L2.CX P w) P w K mg base ["a", "b"] "_law_common" (defScope s__law_common) f cdv A outer s H E) (fun cls d _ H => E cls d H) := takes_of rfl rfl rfl rfl
  have po : PassesOwn (model P w) (A.deeper (envOfC "_law_common" (defScope s__law_common) s.heap.objs.size f cdv)) (envOfC "_law_common" (defScope s__law_common) s.heap.objs.size f cdv) (cxOf (L2.CX P w) P w K mg base ["a", "b"] "_law_common" (defScope s__law_common) f cdv A outer s H E).xe := passes_of rfl
  have hu : (A.deeper (envOfC "_law_common" (defScope s__law_common) s.heap.objs.size f cdv)).units + 100 < cLine := by have := hr.un; omega
  exact (dss_cons (ds_par2 rfl S.nd rfl rfl (by decide) rfl rfl (.v (de_c1 od_abs rfl B.b_abs (by decide +kernel) (de_v rfl (.inl rfl)))) (.v (de_c1 od_abs rfl B.b_abs (by decide +kernel) (de_v rfl (.inl rfl)))) rfl)
    (dss_cons (ds_while po (dt_cmp hb_gt (od_gt hu) (de_v rfl (.inl rfl)) de_int (nomark _))
    (dss_one (ds_par2 rfl S.nd rfl rfl (by decide) rfl rfl (.v (de_v rfl (.inl rfl))) (.v (de_x2 od_mod (de_v rfl (.inl rfl)) (de_v rfl (.inl rfl)))) rfl)))
    (dss_one (ds_ret (de_v rfl (.inl rfl))))))
theorem sc__law_whole : FnScope ["x"] ["x"] (defScope s__law_whole) := ⟨rfl, rfl, rfl, by decide +kernel, rfl, by decide +kernel, by decide +kernel⟩
set_option maxHeartbeats 4000000 in
theorem ok__law_whole {f : Addr} {fd : FuncData} (B : Bm mg)  (F : Fun K "_law_whole" "_law_whole" s__law_whole f fd) (hm : mg "_law_whole" = some (.ref f)) : FnD P w K mg base 1 "_law_whole" ["x"] D__law_whole := by
  have S := sc__law_whole
  refine fnd_ofA F hm (F.binds fun _ _ _ _ _ _ us hl => match us, hl with | [_], _ => rfl) (fn_D F S rfl rfl fun cdv A outer s H E hr => ?_)
  have tk : Takes (cxOf (L2.CX P w) P w K mg base ["x"] "_law_whole" (defScope s__law_whole) f cdv A outer s H E) (fun cls d _ H => E cls d H) := takes_of rfl rfl rfl rfl
  have po : PassesOwn (model P w) (A.deeper (envOfC "_law_whole" (defScope s__law_whole) s.heap.objs.size f cdv)) (envOfC "_law_whole" (defScope s__law_whole) s.heap.objs.size f cdv) (cxOf (L2.CX P w) P w K mg base ["x"] "_law_whole" (defScope s__law_whole) f cdv A outer s H E).xe := passes_of rfl
  have hu : (A.deeper (envOfC "_law_whole" (defScope s__law_whole) s.heap.objs.size f cdv)).units + 100 < cLine := by have := hr.un; omega
  exact (dss_one (ds_ret (de_and (de_isi (t := Ty.int) rfl B.b_isinstance rfl B.b_int (by decide +kernel) (de_v rfl (.inl rfl))) (de_and1 (de_not (de_isi (t := Ty.bool) rfl B.b_isinstance rfl B.b_bool (by decide +kernel) (de_v rfl (.inl rfl))))))))
theorem sc__law_word : FnScope ["call"] ["call"] (defScope s__law_word) := ⟨rfl, rfl, rfl, by decide +kernel, rfl, by decide +kernel, by decide +kernel⟩
theorem ok__law_word {f : Addr} {fd : FuncData} (M : ExM K mg C [.bad, .notso, .much]) (F : Fun K "_law_word" "_law_word" s__law_word f fd) (hm : mg "_law_word" = some (.ref f)) : HlpD K mg C "_law_word" "call" r__law_word o__law_word :=
  hlp_A M F hm (F.binds (ps := ["call"]) fun _ _ _ _ _ _ us hl => match us, hl with | [_], _ => rfl) sc__law_word rfl (.inl rfl) rfl (.cons rfl rfl rfl (.str (by decide +kernel)) (.cons rfl rfl rfl (.str (by decide +kernel)) (.cons rfl rfl rfl (.str (by decide +kernel)) .nil))) (.str (by decide +kernel)) fun _ => rfl
theorem sc__law_by : FnScope ["f", "g", "out", "k", "by", "j"] ["f", "g"] (defScope s__law_by) := ⟨rfl, rfl, rfl, by decide +kernel, rfl, by decide +kernel, by decide +kernel⟩
set_option maxHeartbeats 4000000 in
theorem ok__law_by {f : Addr} {fd : FuncData} (B : Bm mg)  (F : Fun K "_law_by" "_law_by" s__law_by f fd) (hm : mg "_law_by" = some (.ref f)) : FnD P w K mg base 1 "_law_by" ["f", "g"] D__law_by := by
  have S := sc__law_by
  refine fnd_ofA F hm (F.binds fun _ _ _ _ _ _ us hl => match us, hl with | [_, _], _ => rfl) (fn_D F S rfl rfl fun cdv A outer s H E hr => ?_)
  have tk : Takes (cxOf (L2.CX P w) P w K mg base ["f", "g", "out", "k", "by", "j"] "_law_by" (defScope s__law_by) f cdv A outer s H E) (fun cls d _ H => E cls d H) := takes_of rfl rfl rfl rfl
  have po : PassesOwn (model P w) (A.deeper (envOfC "_law_by" (defScope s__law_by) s.heap.objs.size f cdv)) (envOfC "_law_by" (defScope s__law_by) s.heap.objs.size f cdv) (cxOf (L2.CX P w) P w K mg base ["f", "g", "out", "k", "by", "j"] "_law_by" (defScope s__law_by) f cdv A outer s H E).xe := passes_of rfl
  have hu : (A.deeper (envOfC "_law_by" (defScope s__law_by) s.heap.objs.size f cdv)).units + 100 < cLine := by have := hr.un; omega
  exact (dss_cons (ds_par2 rfl S.nd rfl rfl (by decide) rfl rfl (.n (dl_t1 od_list rfl B.b_list (by decide +kernel) (de_v rfl (.inl rfl)))) (.n (dl_disp des_nil)) rfl)
    (dss_cons (ds_for rfl po (di_rm rfl B.b_range (de_x2 od_sub (de_c1B od_len rfl B.b_len (by decide +kernel) (pvar rfl (.inl rfl))) (de_c1 od_len rfl B.b_len (by decide +kernel) (de_v rfl (.inl rfl)))) (de_un od_neg de_int) (de_un od_neg de_int)) (dg_nm S.nd rfl (.inl rfl))
    (dss_cons (ds_set S.nd rfl (.inl rfl) (de_ixL od_ix (pvar rfl (.inl rfl)) (de_x2 od_sub (de_x2 od_add (de_v rfl (.inl rfl)) (de_c1 od_len rfl B.b_len (by decide +kernel) (de_v rfl (.inl rfl)))) de_int) fun _ _ => rfl))
    (dss_cons (ds_ins (pvar rfl (.inl rfl)) de_int (de_v rfl (.inl rfl)))
    (dss_one (ds_for rfl po (di_r1 rfl B.b_range (de_c1 od_len rfl B.b_len (by decide +kernel) (de_v rfl (.inl rfl)))) (dg_nm S.nd rfl (.inl rfl))
    (dss_one (ds_put2 (pvar rfl (.inl rfl)) (de_x2 od_add (de_v rfl (.inl rfl)) (de_v rfl (.inl rfl))) (de_x2 od_sub (de_ixL od_ix (pvar rfl (.inl rfl)) (de_x2 od_add (de_v rfl (.inl rfl)) (de_v rfl (.inl rfl))) fun _ _ => rfl) (de_x2 od_mul (de_v rfl (.inl rfl)) (de_ix od_ix (de_v rfl (.inl rfl)) (de_v rfl (.inl rfl)) fun _ _ => rfl))) rfl rfl rfl)))))))
    (dss_frz (dss_frz (dss_one (ds_ret (de_tup (des_cons (de_v rfl (.inl rfl)) (des_cons (de_v rfl (.inl rfl)) des_nil)))))))))
theorem sc__law_round : FnScope ["d", "row", "e"] ["d"] (defScope s__law_round) := ⟨rfl, rfl, rfl, by decide +kernel, rfl, by decide +kernel, by decide +kernel⟩
set_option maxHeartbeats 4000000 in
theorem okr__law_round {f : Addr} {fd : FuncData} (B : Bm mg) (h__law_by : FnD P w K mg base 1 "_law_by" ["f", "g"] D__law_by) (F : Fun K "_law_round" "_law_round" s__law_round f fd) (hm : mg "_law_round" = some (.ref f)) : ∀ n : Nat, FnD P w K mg base (1 + n) "_law_round" ["d"] (R__law_round n) := by
  intro n
  induction n with
  | zero => exact fnd_ofA F hm (F.binds fun _ _ _ _ _ _ us hl => match us, hl with | [_], _ => rfl) fnok_no
  | succ n h__law_round =>
    show FnD P w K mg base (1 + n + 1) "_law_round" ["d"] (R__law_round (n + 1))
    have S := sc__law_round
    refine fnd_ofA F hm (F.binds fun _ _ _ _ _ _ us hl => match us, hl with | [_], _ => rfl) (fn_D F S rfl rfl fun cdv A outer s H E hr => ?_)
    have tk : Takes (cxOf (L2.CX P w) P w K mg base ["d", "row", "e"] "_law_round" (defScope s__law_round) f cdv A outer s H E) (fun cls d _ H => E cls d H) := takes_of rfl rfl rfl rfl
    have po : PassesOwn (model P w) (A.deeper (envOfC "_law_round" (defScope s__law_round) s.heap.objs.size f cdv)) (envOfC "_law_round" (defScope s__law_round) s.heap.objs.size f cdv) (cxOf (L2.CX P w) P w K mg base ["d", "row", "e"] "_law_round" (defScope s__law_round) f cdv A outer s H E).xe := passes_of rfl
    have hu : (A.deeper (envOfC "_law_round" (defScope s__law_round) s.heap.objs.size f cdv)).units + 100 < cLine := by have := hr.un; omega
    exact (dss_cons (ds_set S.nd rfl (.inl rfl) (de_fz (dl_cat (de_fz (dl_cat (de_fz (dl_disp (des_cons (de_un od_neg de_int) des_nil))) (de_fz (dl_rep (dl_disp (des_cons de_int des_nil)) (de_x2 od_sub (de_v rfl (.inl rfl)) de_int))))) (de_fz (dl_disp (des_cons de_int des_nil))))))
      (dss_cons (ds_for rfl po (di_r2 rfl B.b_range de_int (de_v rfl (.inl rfl))) (dg_nm S.nd rfl (.inl rfl))
      (dss_one (ds_if (dt_cmp hb_eq (od_eq hu) (de_x2 od_mod (de_v rfl (.inl rfl)) (de_v rfl (.inl rfl))) de_int (nomark _))
      (dss_one (ds_set S.nd rfl (.inl rfl) (de_ix od_ix (de_call tk hr (h__law_by.up (by omega)) rfl (das_cons (da_d (de_v rfl (.inl rfl))) (das_cons (da_d (de_call tk hr (h__law_round.up (by omega)) rfl (das_cons (da_d (de_v rfl (.inl rfl))) das_nil))) das_nil))) de_int fun _ _ => rfl)))
      dss_nil)))
      (dss_one (ds_ret (de_v rfl (.inl rfl))))))
theorem ok__law_round {f : Addr} {fd : FuncData} (B : Bm mg) (h__law_by : FnD P w K mg base 1 "_law_by" ["f", "g"] D__law_by) (F : Fun K "_law_round" "_law_round" s__law_round f fd) (hm : mg "_law_round" = some (.ref f)) : FnD P w K mg base 13 "_law_round" ["d"] D__law_round := okr__law_round B h__law_by F hm 12
theorem sc__law_times : FnScope ["f", "g", "row", "j", "k"] ["f", "g"] (defScope s__law_times) := ⟨rfl, rfl, rfl, by decide +kernel, rfl, by decide +kernel, by decide +kernel⟩
set_option maxHeartbeats 4000000 in
theorem ok__law_times {f : Addr} {fd : FuncData} (B : Bm mg)  (F : Fun K "_law_times" "_law_times" s__law_times f fd) (hm : mg "_law_times" = some (.ref f)) : FnD P w K mg base 1 "_law_times" ["f", "g"] D__law_times := by
  have S := sc__law_times
  refine fnd_ofA F hm (F.binds fun _ _ _ _ _ _ us hl => match us, hl with | [_, _], _ => rfl) (fn_D F S rfl rfl fun cdv A outer s H E hr => ?_)
  have tk : Takes (cxOf (L2.CX P w) P w K mg base ["f", "g", "row", "j", "k"] "_law_times" (defScope s__law_times) f cdv A outer s H E) (fun cls d _ H => E cls d H) := takes_of rfl rfl rfl rfl
  have po : PassesOwn (model P w) (A.deeper (envOfC "_law_times" (defScope s__law_times) s.heap.objs.size f cdv)) (envOfC "_law_times" (defScope s__law_times) s.heap.objs.size f cdv) (cxOf (L2.CX P w) P w K mg base ["f", "g", "row", "j", "k"] "_law_times" (defScope s__law_times) f cdv A outer s H E).xe := passes_of rfl
  have hu : (A.deeper (envOfC "_law_times" (defScope s__law_times) s.heap.objs.size f cdv)).units + 100 < cLine := by have := hr.un; omega
  exact (dss_cons (ds_own S.nd rfl (.inl rfl) (dl_rep (dl_disp (des_cons de_int des_nil)) (de_x2 od_sub (de_x2 od_add (de_c1 od_len rfl B.b_len (by decide +kernel) (de_v rfl (.inl rfl))) (de_c1 od_len rfl B.b_len (by decide +kernel) (de_v rfl (.inl rfl)))) de_int)))
    (dss_cons (ds_for rfl po (di_r1 rfl B.b_range (de_c1 od_len rfl B.b_len (by decide +kernel) (de_v rfl (.inl rfl)))) (dg_nm S.nd rfl (.inl rfl))
    (dss_one (ds_for rfl po (di_r1 rfl B.b_range (de_c1 od_len rfl B.b_len (by decide +kernel) (de_v rfl (.inl rfl)))) (dg_nm S.nd rfl (.inl rfl))
    (dss_one (ds_put2 (pvar rfl (.inl rfl)) (de_x2 od_add (de_v rfl (.inl rfl)) (de_v rfl (.inl rfl))) (de_x2 od_add (de_ixL od_ix (pvar rfl (.inl rfl)) (de_x2 od_add (de_v rfl (.inl rfl)) (de_v rfl (.inl rfl))) fun _ _ => rfl) (de_x2 od_mul (de_ix od_ix (de_v rfl (.inl rfl)) (de_v rfl (.inl rfl)) fun _ _ => rfl) (de_ix od_ix (de_v rfl (.inl rfl)) (de_v rfl (.inl rfl)) fun _ _ => rfl))) rfl rfl rfl)))))
    (dss_frz (dss_one (ds_ret (de_v rfl (.inl rfl)))))))
theorem sc_law : FnScope ["script", "box", "d", "told", "a", "k", "row", "e", "primes", "p", "q"] ["script"] (defScope s_law) := ⟨rfl, rfl, rfl, by decide +kernel, rfl, by decide +kernel, by decide +kernel⟩
set_option maxHeartbeats 4000000 in
theorem ok_law {f : Addr} {fd : FuncData} (B : Bm mg) (M : ExM K mg C [.bad, .notso, .much]) (h__law_box : FnD P w K mg base 1 "_law_box" ["script"] D__law_box) (h__law_take : FnD P w K mg base 1 "_law_take" ["box", "m"] D__law_take) (h_round_polynomial : FnD P w K mg base 14 "round_polynomial" ["d"] D_round_polynomial) (h__law_round : FnD P w K mg base 13 "_law_round" ["d"] D__law_round) (h__law_whole : FnD P w K mg base 1 "_law_whole" ["x"] D__law_whole) (h__law_common : FnD P w K mg base 1 "_law_common" ["a", "b"] D__law_common) (h__law_times : FnD P w K mg base 1 "_law_times" ["f", "g"] D__law_times) (h__law_word : HlpD K mg C "_law_word" "call" r__law_word o__law_word) (h__law_pick : FnD P w K mg base 2 "_law_pick" ["box", "menu"] D__law_pick) (T : LamT K base mg "law" f) (F : Fun K "law" "law" s_law f fd) (hm : mg "law" = some (.ref f)) : RunG P w K mg base (L2.CX P w) 17 f fd ["script"] (spD K mg D_law) := by
  have S := sc_law
  refine (fn_LG T F S rfl rfl fun cdv s H E hL hr => ?_)
  have tk : Takes (cxOf (L2.CX P w) P w K mg base ["script", "box", "d", "told", "a", "k", "row", "e", "primes", "p", "q"] "law" (defScope s_law) f cdv callerA [] s H E) (fun cls d _ H => E cls d H) := takes_of rfl rfl rfl rfl
  have po : PassesOwn (model P w) (callerA.deeper (envOfC "law" (defScope s_law) s.heap.objs.size f cdv)) (envOfC "law" (defScope s_law) s.heap.objs.size f cdv) (cxOf (L2.CX P w) P w K mg base ["script", "box", "d", "told", "a", "k", "row", "e", "primes", "p", "q"] "law" (defScope s_law) f cdv callerA [] s H E).xe := passes_of rfl
  have hu : (callerA.deeper (envOfC "law" (defScope s_law) s.heap.objs.size f cdv)).units + 100 < cLine := by have := hr.un; omega
  exact (dss_cons (ds_asg S.nd rfl (.inr rfl) (da_call tk hr (h__law_box.up (by decide)) rfl (das_cons (da_s (pvar rfl (.inl rfl))) das_nil)))
    (dss_cons (ds_set S.nd rfl (.inr rfl) (de_x2 od_add de_int (de_call tk hr (h__law_take.up (by decide)) rfl (das_cons (da_r (pvar rfl (.inr (.inl rfl)))) (das_cons (da_d de_int) das_nil)))))
    (dss_cons (ds_set S.nd rfl (.inl rfl) (de_call tk hr (h_round_polynomial.up (by decide)) rfl (das_cons (da_d (de_v rfl (.inr (.inl rfl)))) das_nil)))
    (dss_cons (ds_if (dt_bool (dw_or (dt_not (dt_v (de_isi (t := Ty.tuple) rfl B.b_isinstance rfl B.b_tuple (by decide +kernel) (de_v rfl (.inl rfl))))) (dw_or (dt_cmp hb_ne (od_ne hu) (de_fz (dl_comp rfl S.nd (own := [("a", 4)]) (di_seq (de_v rfl (.inl rfl))) (blkOk_by rfl) (by decide) (fun s H C cl fp => (dg_nm S.nd rfl (.inl rfl))) (fun s H C cl fp => (dts_one (dt_not (dt_v (de_call LamX.takes0 hr (h__law_whole.up (by decide)) rfl (das_cons (da_d (de_v rfl (.inl rfl))) das_nil)))))) (fun s H C cl fp => (de_v rfl (.inl rfl))))) (de_fz (dl_disp des_nil)) (nomark _)) (dw_or (dt_cmp hb_ne (od_ne hu) (de_ix od_ix (de_v rfl (.inl rfl)) (de_un od_neg de_int) fun _ _ => rfl) de_int (nomark _)) (dw_or1 (dt_cmp hb_ne (od_ne hu) (de_fz (dl_t1 od_list rfl B.b_list (by decide +kernel) (de_v rfl (.inl rfl)))) (de_call tk hr (h__law_round.up (by decide)) rfl (das_cons (da_d (de_v rfl (.inr (.inl rfl)))) das_nil)) (nomark _)))))))
    (dss_one (ds_ret de_bl))
    dss_nil)
    (dss_cons (ds_if (dt_cmp hb_ne (od_ne hu) (de_x2 od_sub (de_c1 od_len rfl B.b_len (by decide +kernel) (de_v rfl (.inl rfl))) de_int) (de_c1 od_len rfl B.b_len (by decide +kernel) (de_fz (dl_comp rfl S.nd (own := [("k", 5)]) (di_r2 rfl B.b_range de_int (de_x2 od_add (de_v rfl (.inr (.inl rfl))) de_int)) (blkOk_by rfl) (by decide) (fun s H C cl fp => (dg_nm S.nd rfl (.inl rfl))) (fun s H C cl fp => (dts_one (dt_cmp hb_eq (od_eq hu) (de_call LamX.takes0 hr (h__law_common.up (by decide)) rfl (das_cons (da_d (de_v rfl (.inl rfl))) (das_cons (da_d (de_v rfl (.inr (.inl rfl)))) das_nil))) de_int (nomark _)))) (fun s H C cl fp => (de_v rfl (.inl rfl)))))) (nomark _))
    (dss_one (ds_ret de_bl))
    dss_nil)
    (dss_cons (ds_set S.nd rfl (.inl rfl) (de_fz (dl_disp (des_cons de_int des_nil))))
    (dss_cons (ds_for rfl po (di_r2 rfl B.b_range de_int (de_x2 od_add (de_v rfl (.inr (.inl rfl))) de_int)) (dg_nm S.nd rfl (.inl rfl))
    (dss_one (ds_if (dt_cmp hb_eq (od_eq hu) (de_x2 od_mod (de_v rfl (.inr (.inl rfl))) (de_v rfl (.inl rfl))) de_int (nomark _))
    (dss_one (ds_set S.nd rfl (.inl rfl) (de_call tk hr (h__law_times.up (by decide)) rfl (das_cons (da_d (de_v rfl (.inl rfl))) (das_cons (da_d (de_fz (dl_t1 od_list rfl B.b_list (by decide +kernel) (de_call tk hr (h_round_polynomial.up (by decide)) rfl (das_cons (da_d (de_v rfl (.inl rfl))) das_nil))))) das_nil)))))
    dss_nil)))
    (dss_cons (ds_if (dt_cmp hb_ne (od_ne hu) (de_v rfl (.inl rfl)) (de_fz (dl_cat (de_fz (dl_cat (de_fz (dl_disp (des_cons (de_un od_neg de_int) des_nil))) (de_fz (dl_rep (dl_disp (des_cons de_int des_nil)) (de_x2 od_sub (de_v rfl (.inr (.inl rfl))) de_int))))) (de_fz (dl_disp (des_cons de_int des_nil))))) (nomark _))
    (dss_one (ds_ret de_bl))
    dss_nil)
    (dss_cons (ds_fz_of (lc_asg rfl S.nd rfl rfl rfl (own := [("p", 9)]) (di_r2 rfl B.b_range de_int (de_x2 od_add (de_v rfl (.inr (.inl rfl))) de_int)) (blkOk_by rfl) (by decide) (fun s H C cl fp => (dg_nm S.nd rfl (.inr rfl))) (fun s H C cl fp => (dts_one (dt_bool (dw_and (dt_cmp hb_eq (od_eq hu) (de_x2 od_mod (de_v rfl (.inr (.inl rfl))) (de_v rfl (.inr (.inl rfl)))) de_int (nomark _)) (dw_and1 (dt_cmp hb_eq (od_eq hu) (de_fz (dl_comp rfl S.nd (own := [("q", 10)]) (di_r2 rfl B.b_range de_int (de_v rfl (.inr (.inl rfl)))) (blkOk_by rfl) (by decide) (fun s H C cl fp => (dg_nm S.nd rfl (.inl rfl))) (fun s H C cl fp => (dts_one (dt_cmp hb_eq (od_eq hu) (de_x2 od_mod (de_v rfl (.inr (.inl rfl))) (de_v rfl (.inl rfl))) de_int (nomark _)))) (fun s H C cl fp => (de_v rfl (.inl rfl))))) (de_fz (dl_disp des_nil)) (nomark _))))))) (fun s H C cl fp => (de_v rfl (.inr (.inl rfl))))))
    (dss_cons (ds_if (dt_bool (dw_or (dt_cmp hb_ne (od_ne hu) (de_c1 (od_sum rfl) rfl B.b_sum (by decide +kernel) (de_v rfl (.inl rfl))) (de_if (dt_cmp hb_eq (od_eq hu) (de_v rfl (.inr (.inl rfl))) de_int (nomark _)) de_int (de_if (dt_cmp hb_eq (od_eq hu) (de_c1 od_len rfl B.b_len (by decide +kernel) (de_v rfl (.inl rfl))) de_int (nomark _)) (de_ix od_ix (de_v rfl (.inl rfl)) de_int fun _ _ => rfl) de_int)) (nomark _)) (dw_or1 (dt_bool (dw_and (dt_cmp hb_gt (od_gt hu) (de_v rfl (.inr (.inl rfl))) de_int (nomark _)) (dw_and1 (dt_cmp hb_ne (od_ne hu) (de_v rfl (.inl rfl)) (de_rev (de_v rfl (.inl rfl))) (nomark _))))))))
    (dss_one (ds_ret de_bl))
    dss_nil)
    (dss_cons (ds_if (dt_bool (dw_or (dt_cmp hb_ne (od_ne hu) (de_call tk hr (h_round_polynomial.up (by decide)) rfl (das_cons (da_d de_int) das_nil)) (de_tup (des_cons de_int (des_cons de_int (des_cons (de_un od_neg de_int) (des_cons de_int (des_cons de_int des_nil)))))) (nomark _)) (dw_or1 (dt_cmp hb_ne (od_ne hu) (de_call tk hr (h_round_polynomial.up (by decide)) rfl (das_cons (da_d de_int) das_nil)) (de_tup (des_cons de_int (des_cons de_int (des_cons de_int (des_cons (de_un od_neg de_int) (des_cons (de_un od_neg de_int) (des_cons (de_un od_neg de_int) (des_cons de_int (des_cons de_int (des_cons de_int des_nil)))))))))) (nomark _)))))
    (dss_one (ds_ret de_bl))
    dss_nil)
    (dss_one (ds_ret (de_cmp (od_eq hu) (de_lam M h__law_word rfl hL hr (LamX.lamS_by rfl) rfl (fun _ _ _ _ _ => rfl) fun A outer s H E f c' hr2 => have hu := hu_room hr2; have hr := hr2; (de_call (takes_of rfl rfl rfl rfl) hr (h_round_polynomial.up (by decide)) rfl (das_cons (da_d (de_call (takes_of rfl rfl rfl rfl) hr (h__law_pick.up (by decide)) rfl (das_cons (da_r (pvar rfl (.inr (.inr rfl)))) (das_cons (da_d (de_fz (dl_disp (des_cons de_int (des_cons de_int (des_cons (de_un od_neg de_int) (des_cons de_bl (des_cons de_non (des_cons (de_str) des_nil))))))))) das_nil)))) das_nil))) (de_str) (nomark _)))))))))))))))
end
theorem all_mk {l : PySem.W.OpenLaw} {w : World} {K : PySem.W.Frag} {h : Heap} {mg : Str → Option Value} {fa : Addr} (X : K.In h) (G : h.Ns mainGlobals mg) (hfa : mg "law" = some (.ref fa))
    {f_is_number : Addr} {u_is_number kV_is_number dc_is_number pm_is_number cd_is_number ct_is_number : Value} {od_is_number an_is_number : Option Addr} {sl_is_number : Array (Option Value)}
    {f_parted : Addr} {u_parted kV_parted dc_parted pm_parted cd_parted ct_parted : Value} {od_parted an_parted : Option Addr} {sl_parted : Array (Option Value)}
    {f_round_of : Addr} {u_round_of kV_round_of dc_round_of pm_round_of cd_round_of ct_round_of : Value} {od_round_of an_round_of : Option Addr} {sl_round_of : Array (Option Value)}
    {f_round_polynomial : Addr} {u_round_polynomial kV_round_polynomial dc_round_polynomial pm_round_polynomial cd_round_polynomial ct_round_polynomial : Value} {od_round_polynomial an_round_polynomial : Option Addr} {sl_round_polynomial : Array (Option Value)}
    {f__law_box : Addr} {u__law_box kV__law_box dc__law_box pm__law_box cd__law_box ct__law_box : Value} {od__law_box an__law_box : Option Addr} {sl__law_box : Array (Option Value)}
    {f__law_take : Addr} {u__law_take kV__law_take dc__law_take pm__law_take cd__law_take ct__law_take : Value} {od__law_take an__law_take : Option Addr} {sl__law_take : Array (Option Value)}
    {f__law_pick : Addr} {u__law_pick kV__law_pick dc__law_pick pm__law_pick cd__law_pick ct__law_pick : Value} {od__law_pick an__law_pick : Option Addr} {sl__law_pick : Array (Option Value)}
    {f__law_common : Addr} {u__law_common kV__law_common dc__law_common pm__law_common cd__law_common ct__law_common : Value} {od__law_common an__law_common : Option Addr} {sl__law_common : Array (Option Value)}
    {f__law_whole : Addr} {u__law_whole kV__law_whole dc__law_whole pm__law_whole cd__law_whole ct__law_whole : Value} {od__law_whole an__law_whole : Option Addr} {sl__law_whole : Array (Option Value)}
    {f__law_word : Addr} {u__law_word kV__law_word dc__law_word pm__law_word cd__law_word ct__law_word : Value} {od__law_word an__law_word : Option Addr} {sl__law_word : Array (Option Value)}
    {f__law_by : Addr} {u__law_by kV__law_by dc__law_by pm__law_by cd__law_by ct__law_by : Value} {od__law_by an__law_by : Option Addr} {sl__law_by : Array (Option Value)}
    {f__law_round : Addr} {u__law_round kV__law_round dc__law_round pm__law_round cd__law_round ct__law_round : Value} {od__law_round an__law_round : Option Addr} {sl__law_round : Array (Option Value)}
    {f__law_times : Addr} {u__law_times kV__law_times dc__law_times pm__law_times cd__law_times ct__law_times : Value} {od__law_times an__law_times : Option Addr} {sl__law_times : Array (Option Value)}
    {f_law : Addr} {u_law kV_law dc_law pm_law cd_law ct_law : Value} {od_law an_law : Option Addr} {sl_law : Array (Option Value)}
    {c0_law P0_law : Addr}
    {t_MOST_ROUND : Tok}
    {C1 C2 C3 : Addr}
    (a_is_number : PySem.W.nsIn K mainGlobals "is_number" = some (some (.ref f_is_number)))
    (l_is_number : K.lookup f_is_number = some ⟨u_is_number, od_is_number, .func (PySem.W.fnOf "is_number" "is_number" (defArgs s_is_number) (defBody s_is_number) (defScope s_is_number) .none kV_is_number dc_is_number pm_is_number an_is_number cd_is_number ct_is_number), sl_is_number⟩)
    (c_is_number : PySem.W.codeIn K cd_is_number "is_number" = true)
    (k_is_number : PySem.W.keepIn K (.ref f_is_number) = true)
    (a_parted : PySem.W.nsIn K mainGlobals "parted" = some (some (.ref f_parted)))
    (l_parted : K.lookup f_parted = some ⟨u_parted, od_parted, .func (PySem.W.fnOf "parted" "parted" (defArgs s_parted) (defBody s_parted) (defScope s_parted) .none kV_parted dc_parted pm_parted an_parted cd_parted ct_parted), sl_parted⟩)
    (c_parted : PySem.W.codeIn K cd_parted "parted" = true)
    (k_parted : PySem.W.keepIn K (.ref f_parted) = true)
    (a_round_of : PySem.W.nsIn K mainGlobals "round_of" = some (some (.ref f_round_of)))
    (l_round_of : K.lookup f_round_of = some ⟨u_round_of, od_round_of, .func (PySem.W.fnOf "round_of" "round_of" (defArgs s_round_of) (defBody s_round_of) (defScope s_round_of) .none kV_round_of dc_round_of pm_round_of an_round_of cd_round_of ct_round_of), sl_round_of⟩)
    (c_round_of : PySem.W.codeIn K cd_round_of "round_of" = true)
    (k_round_of : PySem.W.keepIn K (.ref f_round_of) = true)
    (a_round_polynomial : PySem.W.nsIn K mainGlobals "round_polynomial" = some (some (.ref f_round_polynomial)))
    (l_round_polynomial : K.lookup f_round_polynomial = some ⟨u_round_polynomial, od_round_polynomial, .func (PySem.W.fnOf "round_polynomial" "round_polynomial" (defArgs s_round_polynomial) (defBody s_round_polynomial) (defScope s_round_polynomial) .none kV_round_polynomial dc_round_polynomial pm_round_polynomial an_round_polynomial cd_round_polynomial ct_round_polynomial), sl_round_polynomial⟩)
    (c_round_polynomial : PySem.W.codeIn K cd_round_polynomial "round_polynomial" = true)
    (k_round_polynomial : PySem.W.keepIn K (.ref f_round_polynomial) = true)
    (a__law_box : PySem.W.nsIn K mainGlobals "_law_box" = some (some (.ref f__law_box)))
    (l__law_box : K.lookup f__law_box = some ⟨u__law_box, od__law_box, .func (PySem.W.fnOf "_law_box" "_law_box" (defArgs s__law_box) (defBody s__law_box) (defScope s__law_box) .none kV__law_box dc__law_box pm__law_box an__law_box cd__law_box ct__law_box), sl__law_box⟩)
    (c__law_box : PySem.W.codeIn K cd__law_box "_law_box" = true)
    (k__law_box : PySem.W.keepIn K (.ref f__law_box) = true)
    (a__law_take : PySem.W.nsIn K mainGlobals "_law_take" = some (some (.ref f__law_take)))
    (l__law_take : K.lookup f__law_take = some ⟨u__law_take, od__law_take, .func (PySem.W.fnOf "_law_take" "_law_take" (defArgs s__law_take) (defBody s__law_take) (defScope s__law_take) .none kV__law_take dc__law_take pm__law_take an__law_take cd__law_take ct__law_take), sl__law_take⟩)
    (c__law_take : PySem.W.codeIn K cd__law_take "_law_take" = true)
    (k__law_take : PySem.W.keepIn K (.ref f__law_take) = true)
    (a__law_pick : PySem.W.nsIn K mainGlobals "_law_pick" = some (some (.ref f__law_pick)))
    (l__law_pick : K.lookup f__law_pick = some ⟨u__law_pick, od__law_pick, .func (PySem.W.fnOf "_law_pick" "_law_pick" (defArgs s__law_pick) (defBody s__law_pick) (defScope s__law_pick) .none kV__law_pick dc__law_pick pm__law_pick an__law_pick cd__law_pick ct__law_pick), sl__law_pick⟩)
    (c__law_pick : PySem.W.codeIn K cd__law_pick "_law_pick" = true)
    (k__law_pick : PySem.W.keepIn K (.ref f__law_pick) = true)
    (a__law_common : PySem.W.nsIn K mainGlobals "_law_common" = some (some (.ref f__law_common)))
    (l__law_common : K.lookup f__law_common = some ⟨u__law_common, od__law_common, .func (PySem.W.fnOf "_law_common" "_law_common" (defArgs s__law_common) (defBody s__law_common) (defScope s__law_common) .none kV__law_common dc__law_common pm__law_common an__law_common cd__law_common ct__law_common), sl__law_common⟩)
    (c__law_common : PySem.W.codeIn K cd__law_common "_law_common" = true)
    (k__law_common : PySem.W.keepIn K (.ref f__law_common) = true)
    (a__law_whole : PySem.W.nsIn K mainGlobals "_law_whole" = some (some (.ref f__law_whole)))
    (l__law_whole : K.lookup f__law_whole = some ⟨u__law_whole, od__law_whole, .func (PySem.W.fnOf "_law_whole" "_law_whole" (defArgs s__law_whole) (defBody s__law_whole) (defScope s__law_whole) .none kV__law_whole dc__law_whole pm__law_whole an__law_whole cd__law_whole ct__law_whole), sl__law_whole⟩)
    (c__law_whole : PySem.W.codeIn K cd__law_whole "_law_whole" = true)
    (k__law_whole : PySem.W.keepIn K (.ref f__law_whole) = true)
    (a__law_word : PySem.W.nsIn K mainGlobals "_law_word" = some (some (.ref f__law_word)))
    (l__law_word : K.lookup f__law_word = some ⟨u__law_word, od__law_word, .func (PySem.W.fnOf "_law_word" "_law_word" (defArgs s__law_word) (defBody s__law_word) (defScope s__law_word) .none kV__law_word dc__law_word pm__law_word an__law_word cd__law_word ct__law_word), sl__law_word⟩)
    (c__law_word : PySem.W.codeIn K cd__law_word "_law_word" = true)
    (k__law_word : PySem.W.keepIn K (.ref f__law_word) = true)
    (a__law_by : PySem.W.nsIn K mainGlobals "_law_by" = some (some (.ref f__law_by)))
    (l__law_by : K.lookup f__law_by = some ⟨u__law_by, od__law_by, .func (PySem.W.fnOf "_law_by" "_law_by" (defArgs s__law_by) (defBody s__law_by) (defScope s__law_by) .none kV__law_by dc__law_by pm__law_by an__law_by cd__law_by ct__law_by), sl__law_by⟩)
    (c__law_by : PySem.W.codeIn K cd__law_by "_law_by" = true)
    (k__law_by : PySem.W.keepIn K (.ref f__law_by) = true)
    (a__law_round : PySem.W.nsIn K mainGlobals "_law_round" = some (some (.ref f__law_round)))
    (l__law_round : K.lookup f__law_round = some ⟨u__law_round, od__law_round, .func (PySem.W.fnOf "_law_round" "_law_round" (defArgs s__law_round) (defBody s__law_round) (defScope s__law_round) .none kV__law_round dc__law_round pm__law_round an__law_round cd__law_round ct__law_round), sl__law_round⟩)
    (c__law_round : PySem.W.codeIn K cd__law_round "_law_round" = true)
    (k__law_round : PySem.W.keepIn K (.ref f__law_round) = true)
    (a__law_times : PySem.W.nsIn K mainGlobals "_law_times" = some (some (.ref f__law_times)))
    (l__law_times : K.lookup f__law_times = some ⟨u__law_times, od__law_times, .func (PySem.W.fnOf "_law_times" "_law_times" (defArgs s__law_times) (defBody s__law_times) (defScope s__law_times) .none kV__law_times dc__law_times pm__law_times an__law_times cd__law_times ct__law_times), sl__law_times⟩)
    (c__law_times : PySem.W.codeIn K cd__law_times "_law_times" = true)
    (k__law_times : PySem.W.keepIn K (.ref f__law_times) = true)
    (a_law : PySem.W.nsIn K mainGlobals "law" = some (some (.ref f_law)))
    (l_law : K.lookup f_law = some ⟨u_law, od_law, .func (PySem.W.fnOf "law" "law" (defArgs s_law) (defBody s_law) (defScope s_law) .none kV_law dc_law pm_law an_law cd_law ct_law), sl_law⟩)
    (c_law : PySem.W.codeIn K cd_law "law" = true)
    (k_law : PySem.W.keepIn K (.ref f_law) = true)
    (t_law : cd_law = .ref c0_law)
    (e_law : h.get? P0_law = some { cls := .none, data := .fields #[] })
    (h_law : PySem.W.codeHdIn K c0_law P0_law = true)
    (n_law : K.lookup P0_law = none)
    (m_MOST_ROUND : PySem.W.nsIn K mainGlobals "MOST_ROUND" = some (some (.int 36 t_MOST_ROUND)))
    (xg1 : PySem.W.nsIn K mainGlobals "BadTune" = some (some (.ref C1)))
    (xg2 : PySem.W.nsIn K mainGlobals "NotSo" = some (some (.ref C2)))
    (xg3 : PySem.W.nsIn K mainGlobals "TooMuch" = some (some (.ref C3)))
    (xq1 : PySem.W.excIn K C1 veB "ValueError.__new__" = true)
    (xq2 : PySem.W.excIn K C2 veB "ValueError.__new__" = true)
    (xq3 : PySem.W.excIn K C3 veB "ValueError.__new__" = true)
    (xk1 : PySem.W.keepIn K (.ref C1) = true)
    (xk2 : PySem.W.keepIn K (.ref C2) = true)
    (xk3 : PySem.W.keepIn K (.ref C3) = true)
    (xs1 : PySem.W.subIn K (.ref C1) (.type "BaseException") = some true)
    (xs2 : PySem.W.subIn K (.ref C2) (.type "BaseException") = some true)
    (xs3 : PySem.W.subIn K (.ref C3) (.type "BaseException") = some true)
    (xt1 : PySem.W.typeIn K (.ref C1) = some (.type "type"))
    (xt2 : PySem.W.typeIn K (.ref C2) = some (.type "type"))
    (xt3 : PySem.W.typeIn K (.ref C3) = some (.type "type"))
    (xm11 : PySem.W.exmOne K (.ref C1) (.ref C1) = some true)
    (xm12 : PySem.W.exmOne K (.ref C1) (.ref C2) = some false)
    (xm13 : PySem.W.exmOne K (.ref C1) (.ref C3) = some false)
    (xm21 : PySem.W.exmOne K (.ref C2) (.ref C1) = some false)
    (xm22 : PySem.W.exmOne K (.ref C2) (.ref C2) = some true)
    (xm23 : PySem.W.exmOne K (.ref C2) (.ref C3) = some false)
    (xm31 : PySem.W.exmOne K (.ref C3) (.ref C1) = some false)
    (xm32 : PySem.W.exmOne K (.ref C3) (.ref C2) = some false)
    (xm33 : PySem.W.exmOne K (.ref C3) (.ref C3) = some true)
    (z_abs : PySem.W.nsIn K mainGlobals "abs" = some none)
    (z_bool : PySem.W.nsIn K mainGlobals "bool" = some none)
    (z_int : PySem.W.nsIn K mainGlobals "int" = some none)
    (z_isinstance : PySem.W.nsIn K mainGlobals "isinstance" = some none)
    (z_len : PySem.W.nsIn K mainGlobals "len" = some none)
    (z_list : PySem.W.nsIn K mainGlobals "list" = some none)
    (z_range : PySem.W.nsIn K mainGlobals "range" = some none)
    (z_sum : PySem.W.nsIn K mainGlobals "sum" = some none)
    (z_tuple : PySem.W.nsIn K mainGlobals "tuple" = some none)
    (hF : ∀ ns : List Int, ns.length ≤ 63 → (∀ z ∈ ns, Builtin.Int.intBits z ≤ 1048576) → ∃ S', D_law [.sc (.list (ns.map .int))] [] = some (.ok (.sh (.bool true)) S')) :
    LawAtG l w K 17 63 "script" mg fa h := by
  have e0 := hfa.symm.trans (PySem.W.mg_of X G a_law)
  cases e0
  letI tbI : TB := ⟨[(P0_law, ("law" : Str) ++ ".<locals>." ++ "<lambda>")]⟩
  have B : Bm mg := ⟨PySem.W.mg_none_of X G z_abs, PySem.W.mg_none_of X G z_bool, PySem.W.mg_none_of X G z_int, PySem.W.mg_none_of X G z_isinstance, PySem.W.mg_none_of X G z_len, PySem.W.mg_none_of X G z_list, PySem.W.mg_none_of X G z_range, PySem.W.mg_none_of X G z_sum, PySem.W.mg_none_of X G z_tuple⟩
  have M := exM_of X G xg1 xg2 xg3 xq1 xq2 xq3 xk1 xk2 xk3 xs1 xs2 xs3 xt1 xt2 xt3 xm11 xm12 xm13 xm21 xm22 xm23 xm31 xm32 xm33
  have m_MOST_ROUND : CoD K mg "MOST_ROUND" c_MOST_ROUND := cod_int X G m_MOST_ROUND
  refine lawAtG_of (fd := PySem.W.fnOf "law" "law" (defArgs s_law) (defBody s_law) (defScope s_law) .none kV_law dc_law pm_law an_law cd_law ct_law) (F := D_law) [(c0_law, P0_law)] (fun p hp => by
    simp only [List.mem_cons, List.not_mem_nil, or_false] at hp
    rcases hp with rfl
    · exact e_law) (fun p hp => by
    simp only [List.mem_cons, List.not_mem_nil, or_false] at hp
    rcases hp with rfl
    · exact n_law) (fun p hp => by
    simp only [List.mem_cons, List.not_mem_nil, or_false] at hp
    rcases hp with rfl
    · exact PySem.W.codeHd_of_K X h_law) (fun s u => .of_eq rfl) (fun q hq => ⟨_, List.mem_cons_self, by rw [List.mem_singleton.mp hq]⟩) hF fun base _ _ hT => ?_
  have h_is_number := ok_is_number (P := l.prog) (w := w) (base := base) B (fun_mk (st := s_is_number) l_is_number c_is_number k_is_number) (PySem.W.mg_of X G a_is_number)
  have h_parted := ok_parted (P := l.prog) (w := w) (base := base) B (fun_mk (st := s_parted) l_parted c_parted k_parted) (PySem.W.mg_of X G a_parted)
  have h_round_of := ok_round_of (P := l.prog) (w := w) (base := base) B h_parted (fun_mk (st := s_round_of) l_round_of c_round_of k_round_of) (PySem.W.mg_of X G a_round_of)
  have h_round_polynomial := ok_round_polynomial (P := l.prog) (w := w) (base := base) B M m_MOST_ROUND h_is_number h_round_of (fun_mk (st := s_round_polynomial) l_round_polynomial c_round_polynomial k_round_polynomial) (PySem.W.mg_of X G a_round_polynomial)
  have h__law_box := ok__law_box (P := l.prog) (w := w) (base := base) B (fun_mk (st := s__law_box) l__law_box c__law_box k__law_box) (PySem.W.mg_of X G a__law_box)
  have h__law_take := ok__law_take (P := l.prog) (w := w) (base := base) B (fun_mk (st := s__law_take) l__law_take c__law_take k__law_take) (PySem.W.mg_of X G a__law_take)
  have h__law_pick := ok__law_pick (P := l.prog) (w := w) (base := base) B h__law_take (fun_mk (st := s__law_pick) l__law_pick c__law_pick k__law_pick) (PySem.W.mg_of X G a__law_pick)
  have h__law_common := ok__law_common (P := l.prog) (w := w) (base := base) B (fun_mk (st := s__law_common) l__law_common c__law_common k__law_common) (PySem.W.mg_of X G a__law_common)
  have h__law_whole := ok__law_whole (P := l.prog) (w := w) (base := base) B (fun_mk (st := s__law_whole) l__law_whole c__law_whole k__law_whole) (PySem.W.mg_of X G a__law_whole)
  have h__law_word := ok__law_word M (fun_mk (st := s__law_word) l__law_word c__law_word k__law_word) (PySem.W.mg_of X G a__law_word)
  have h__law_by := ok__law_by (P := l.prog) (w := w) (base := base) B (fun_mk (st := s__law_by) l__law_by c__law_by k__law_by) (PySem.W.mg_of X G a__law_by)
  have h__law_round := ok__law_round (P := l.prog) (w := w) (base := base) B h__law_by (fun_mk (st := s__law_round) l__law_round c__law_round k__law_round) (PySem.W.mg_of X G a__law_round)
  have h__law_times := ok__law_times (P := l.prog) (w := w) (base := base) B (fun_mk (st := s__law_times) l__law_times c__law_times k__law_times) (PySem.W.mg_of X G a__law_times)
  exact ok_law (P := l.prog) (w := w) (base := base) B M h__law_box h__law_take h_round_polynomial h__law_round h__law_whole h__law_common h__law_times h__law_word h__law_pick ⟨⟨c0_law, P0_law, _, _, _, _, l_law, t_law, hT _ List.mem_cons_self, List.mem_cons_self, fun p hp _ => by rw [List.mem_singleton.mp hp]⟩⟩ (fun_mk (st := s_law) l_law c_law k_law) (PySem.W.mg_of X G a_law)
end GK48
end

section
set_option Elab.async false
set_option linter.all false
set_option maxRecDepth 100000
set_option maxHeartbeats 4000000
namespace GK48
open PySem Tn PyProof.Rows
def tabs : List (List Int) := [[], [-1, 1], [1, 1], [1, 1, 1], [1, 0, 1], [1, 1, 1, 1, 1], [1, -1, 1], [1, 1, 1, 1, 1, 1, 1], [1, 0, 0, 0, 1], [1, 0, 0, 1, 0, 0, 1], [1, -1, 1, -1, 1], [1, 1, 1, 1, 1, 1, 1, 1, 1, 1, 1], [1, 0, -1, 0, 1], [1, 1, 1, 1, 1, 1, 1, 1, 1, 1, 1, 1, 1], [1, -1, 1, -1, 1, -1, 1], [1, -1, 0, 1, -1, 1, 0, -1, 1], [1, 0, 0, 0, 0, 0, 0, 0, 1], [1, 1, 1, 1, 1, 1, 1, 1, 1, 1, 1, 1, 1, 1, 1, 1, 1], [1, 0, 0, -1, 0, 0, 1], [1, 1, 1, 1, 1, 1, 1, 1, 1, 1, 1, 1, 1, 1, 1, 1, 1, 1, 1], [1, 0, -1, 0, 1, 0, -1, 0, 1], [1, -1, 0, 1, -1, 0, 1, 0, -1, 1, 0, -1, 1], [1, -1, 1, -1, 1, -1, 1, -1, 1, -1, 1], [1, 1, 1, 1, 1, 1, 1, 1, 1, 1, 1, 1, 1, 1, 1, 1, 1, 1, 1, 1, 1, 1, 1], [1, 0, 0, 0, -1, 0, 0, 0, 1], [1, 0, 0, 0, 0, 1, 0, 0, 0, 0, 1, 0, 0, 0, 0, 1, 0, 0, 0, 0, 1], [1, -1, 1, -1, 1, -1, 1, -1, 1, -1, 1, -1, 1], [1, 0, 0, 0, 0, 0, 0, 0, 0, 1, 0, 0, 0, 0, 0, 0, 0, 0, 1], [1, 0, -1, 0, 1, 0, -1, 0, 1, 0, -1, 0, 1], [1, 1, 1, 1, 1, 1, 1, 1, 1, 1, 1, 1, 1, 1, 1, 1, 1, 1, 1, 1, 1, 1, 1, 1, 1, 1, 1, 1, 1], [1, 1, 0, -1, -1, -1, 0, 1, 1], [1, 1, 1, 1, 1, 1, 1, 1, 1, 1, 1, 1, 1, 1, 1, 1, 1, 1, 1, 1, 1, 1, 1, 1, 1, 1, 1, 1, 1, 1, 1], [1, 0, 0, 0, 0, 0, 0, 0, 0, 0, 0, 0, 0, 0, 0, 0, 1], [1, -1, 0, 1, -1, 0, 1, -1, 0, 1, -1, 1, 0, -1, 1, 0, -1, 1, 0, -1, 1], [1, -1, 1, -1, 1, -1, 1, -1, 1, -1, 1, -1, 1, -1, 1, -1, 1], [1, -1, 0, 0, 0, 1, -1, 1, -1, 0, 1, -1, 1, -1, 1, 0, -1, 1, -1, 1, 0, 0, 0, -1, 1], [1, 0, 0, 0, 0, 0, -1, 0, 0, 0, 0, 0, 1]]
def tab (d : Int) : List Int := tabs.getD d.toNat []
theorem rp_1 (x : D) : D_round_polynomial [.sh (.int 1)] [x] = some (.ok (.sh (tupI (tab 1))) [x]) := by kernel_rfl
theorem rp_2 (x : D) : D_round_polynomial [.sh (.int 2)] [x] = some (.ok (.sh (tupI (tab 2))) [x]) := by kernel_rfl
theorem rp_3 (x : D) : D_round_polynomial [.sh (.int 3)] [x] = some (.ok (.sh (tupI (tab 3))) [x]) := by kernel_rfl
theorem rp_4 (x : D) : D_round_polynomial [.sh (.int 4)] [x] = some (.ok (.sh (tupI (tab 4))) [x]) := by kernel_rfl
theorem rp_5 (x : D) : D_round_polynomial [.sh (.int 5)] [x] = some (.ok (.sh (tupI (tab 5))) [x]) := by kernel_rfl
theorem rp_6 (x : D) : D_round_polynomial [.sh (.int 6)] [x] = some (.ok (.sh (tupI (tab 6))) [x]) := by kernel_rfl
theorem rp_7 (x : D) : D_round_polynomial [.sh (.int 7)] [x] = some (.ok (.sh (tupI (tab 7))) [x]) := by kernel_rfl
theorem rp_8 (x : D) : D_round_polynomial [.sh (.int 8)] [x] = some (.ok (.sh (tupI (tab 8))) [x]) := by kernel_rfl
theorem rp_9 (x : D) : D_round_polynomial [.sh (.int 9)] [x] = some (.ok (.sh (tupI (tab 9))) [x]) := by kernel_rfl
theorem rp_10 (x : D) : D_round_polynomial [.sh (.int 10)] [x] = some (.ok (.sh (tupI (tab 10))) [x]) := by kernel_rfl
theorem rp_11 (x : D) : D_round_polynomial [.sh (.int 11)] [x] = some (.ok (.sh (tupI (tab 11))) [x]) := by kernel_rfl
theorem rp_12 (x : D) : D_round_polynomial [.sh (.int 12)] [x] = some (.ok (.sh (tupI (tab 12))) [x]) := by kernel_rfl
theorem rp_13 (x : D) : D_round_polynomial [.sh (.int 13)] [x] = some (.ok (.sh (tupI (tab 13))) [x]) := by kernel_rfl
theorem rp_14 (x : D) : D_round_polynomial [.sh (.int 14)] [x] = some (.ok (.sh (tupI (tab 14))) [x]) := by kernel_rfl
theorem rp_15 (x : D) : D_round_polynomial [.sh (.int 15)] [x] = some (.ok (.sh (tupI (tab 15))) [x]) := by kernel_rfl
theorem rp_16 (x : D) : D_round_polynomial [.sh (.int 16)] [x] = some (.ok (.sh (tupI (tab 16))) [x]) := by kernel_rfl
theorem rp_17 (x : D) : D_round_polynomial [.sh (.int 17)] [x] = some (.ok (.sh (tupI (tab 17))) [x]) := by kernel_rfl
theorem rp_18 (x : D) : D_round_polynomial [.sh (.int 18)] [x] = some (.ok (.sh (tupI (tab 18))) [x]) := by kernel_rfl
theorem rp_19 (x : D) : D_round_polynomial [.sh (.int 19)] [x] = some (.ok (.sh (tupI (tab 19))) [x]) := by kernel_rfl
theorem rp_20 (x : D) : D_round_polynomial [.sh (.int 20)] [x] = some (.ok (.sh (tupI (tab 20))) [x]) := by kernel_rfl
theorem rp_21 (x : D) : D_round_polynomial [.sh (.int 21)] [x] = some (.ok (.sh (tupI (tab 21))) [x]) := by kernel_rfl
theorem rp_22 (x : D) : D_round_polynomial [.sh (.int 22)] [x] = some (.ok (.sh (tupI (tab 22))) [x]) := by kernel_rfl
theorem rp_23 (x : D) : D_round_polynomial [.sh (.int 23)] [x] = some (.ok (.sh (tupI (tab 23))) [x]) := by kernel_rfl
theorem rp_24 (x : D) : D_round_polynomial [.sh (.int 24)] [x] = some (.ok (.sh (tupI (tab 24))) [x]) := by kernel_rfl
theorem rp_25 (x : D) : D_round_polynomial [.sh (.int 25)] [x] = some (.ok (.sh (tupI (tab 25))) [x]) := by kernel_rfl
theorem rp_26 (x : D) : D_round_polynomial [.sh (.int 26)] [x] = some (.ok (.sh (tupI (tab 26))) [x]) := by kernel_rfl
theorem rp_27 (x : D) : D_round_polynomial [.sh (.int 27)] [x] = some (.ok (.sh (tupI (tab 27))) [x]) := by kernel_rfl
theorem rp_28 (x : D) : D_round_polynomial [.sh (.int 28)] [x] = some (.ok (.sh (tupI (tab 28))) [x]) := by kernel_rfl
theorem rp_29 (x : D) : D_round_polynomial [.sh (.int 29)] [x] = some (.ok (.sh (tupI (tab 29))) [x]) := by kernel_rfl
theorem rp_30 (x : D) : D_round_polynomial [.sh (.int 30)] [x] = some (.ok (.sh (tupI (tab 30))) [x]) := by kernel_rfl
theorem rp_31 (x : D) : D_round_polynomial [.sh (.int 31)] [x] = some (.ok (.sh (tupI (tab 31))) [x]) := by kernel_rfl
theorem rp_32 (x : D) : D_round_polynomial [.sh (.int 32)] [x] = some (.ok (.sh (tupI (tab 32))) [x]) := by kernel_rfl
theorem rp_33 (x : D) : D_round_polynomial [.sh (.int 33)] [x] = some (.ok (.sh (tupI (tab 33))) [x]) := by kernel_rfl
theorem rp_34 (x : D) : D_round_polynomial [.sh (.int 34)] [x] = some (.ok (.sh (tupI (tab 34))) [x]) := by kernel_rfl
theorem rp_35 (x : D) : D_round_polynomial [.sh (.int 35)] [x] = some (.ok (.sh (tupI (tab 35))) [x]) := by kernel_rfl
theorem rp_36 (x : D) : D_round_polynomial [.sh (.int 36)] [x] = some (.ok (.sh (tupI (tab 36))) [x]) := by kernel_rfl
theorem rp_all (x : D) : ∀ d : Nat, 1 ≤ d → d ≤ 36 → D_round_polynomial [.sh (.int (d : Int))] [x] = some (.ok (.sh (tupI (tab (d : Int)))) [x])
  | 1, _, _ => rp_1 x
  | 2, _, _ => rp_2 x
  | 3, _, _ => rp_3 x
  | 4, _, _ => rp_4 x
  | 5, _, _ => rp_5 x
  | 6, _, _ => rp_6 x
  | 7, _, _ => rp_7 x
  | 8, _, _ => rp_8 x
  | 9, _, _ => rp_9 x
  | 10, _, _ => rp_10 x
  | 11, _, _ => rp_11 x
  | 12, _, _ => rp_12 x
  | 13, _, _ => rp_13 x
  | 14, _, _ => rp_14 x
  | 15, _, _ => rp_15 x
  | 16, _, _ => rp_16 x
  | 17, _, _ => rp_17 x
  | 18, _, _ => rp_18 x
  | 19, _, _ => rp_19 x
  | 20, _, _ => rp_20 x
  | 21, _, _ => rp_21 x
  | 22, _, _ => rp_22 x
  | 23, _, _ => rp_23 x
  | 24, _, _ => rp_24 x
  | 25, _, _ => rp_25 x
  | 26, _, _ => rp_26 x
  | 27, _, _ => rp_27 x
  | 28, _, _ => rp_28 x
  | 29, _, _ => rp_29 x
  | 30, _, _ => rp_30 x
  | 31, _, _ => rp_31 x
  | 32, _, _ => rp_32 x
  | 33, _, _ => rp_33 x
  | 34, _, _ => rp_34 x
  | 35, _, _ => rp_35 x
  | 36, _, _ => rp_36 x
  | 0, h, _ => absurd h (by decide)
  | n + 37, _, h => absurd h (by omega)
theorem lr_1 (x : D) : D__law_round [.sh (.int 1)] [x] = some (.ok (.sh (lisI (tab 1))) [x]) := by kernel_rfl
theorem lr_2 (x : D) : D__law_round [.sh (.int 2)] [x] = some (.ok (.sh (lisI (tab 2))) [x]) := by kernel_rfl
theorem lr_3 (x : D) : D__law_round [.sh (.int 3)] [x] = some (.ok (.sh (lisI (tab 3))) [x]) := by kernel_rfl
theorem lr_4 (x : D) : D__law_round [.sh (.int 4)] [x] = some (.ok (.sh (lisI (tab 4))) [x]) := by kernel_rfl
theorem lr_5 (x : D) : D__law_round [.sh (.int 5)] [x] = some (.ok (.sh (lisI (tab 5))) [x]) := by kernel_rfl
theorem lr_6 (x : D) : D__law_round [.sh (.int 6)] [x] = some (.ok (.sh (lisI (tab 6))) [x]) := by kernel_rfl
theorem lr_7 (x : D) : D__law_round [.sh (.int 7)] [x] = some (.ok (.sh (lisI (tab 7))) [x]) := by kernel_rfl
theorem lr_8 (x : D) : D__law_round [.sh (.int 8)] [x] = some (.ok (.sh (lisI (tab 8))) [x]) := by kernel_rfl
theorem lr_9 (x : D) : D__law_round [.sh (.int 9)] [x] = some (.ok (.sh (lisI (tab 9))) [x]) := by kernel_rfl
theorem lr_10 (x : D) : D__law_round [.sh (.int 10)] [x] = some (.ok (.sh (lisI (tab 10))) [x]) := by kernel_rfl
theorem lr_11 (x : D) : D__law_round [.sh (.int 11)] [x] = some (.ok (.sh (lisI (tab 11))) [x]) := by kernel_rfl
theorem lr_12 (x : D) : D__law_round [.sh (.int 12)] [x] = some (.ok (.sh (lisI (tab 12))) [x]) := by kernel_rfl
theorem lr_13 (x : D) : D__law_round [.sh (.int 13)] [x] = some (.ok (.sh (lisI (tab 13))) [x]) := by kernel_rfl
theorem lr_14 (x : D) : D__law_round [.sh (.int 14)] [x] = some (.ok (.sh (lisI (tab 14))) [x]) := by kernel_rfl
theorem lr_15 (x : D) : D__law_round [.sh (.int 15)] [x] = some (.ok (.sh (lisI (tab 15))) [x]) := by kernel_rfl
theorem lr_16 (x : D) : D__law_round [.sh (.int 16)] [x] = some (.ok (.sh (lisI (tab 16))) [x]) := by kernel_rfl
theorem lr_17 (x : D) : D__law_round [.sh (.int 17)] [x] = some (.ok (.sh (lisI (tab 17))) [x]) := by kernel_rfl
theorem lr_18 (x : D) : D__law_round [.sh (.int 18)] [x] = some (.ok (.sh (lisI (tab 18))) [x]) := by kernel_rfl
theorem lr_19 (x : D) : D__law_round [.sh (.int 19)] [x] = some (.ok (.sh (lisI (tab 19))) [x]) := by kernel_rfl
theorem lr_20 (x : D) : D__law_round [.sh (.int 20)] [x] = some (.ok (.sh (lisI (tab 20))) [x]) := by kernel_rfl
theorem lr_21 (x : D) : D__law_round [.sh (.int 21)] [x] = some (.ok (.sh (lisI (tab 21))) [x]) := by kernel_rfl
theorem lr_22 (x : D) : D__law_round [.sh (.int 22)] [x] = some (.ok (.sh (lisI (tab 22))) [x]) := by kernel_rfl
theorem lr_23 (x : D) : D__law_round [.sh (.int 23)] [x] = some (.ok (.sh (lisI (tab 23))) [x]) := by kernel_rfl
theorem lr_24 (x : D) : D__law_round [.sh (.int 24)] [x] = some (.ok (.sh (lisI (tab 24))) [x]) := by kernel_rfl
theorem lr_25 (x : D) : D__law_round [.sh (.int 25)] [x] = some (.ok (.sh (lisI (tab 25))) [x]) := by kernel_rfl
theorem lr_26 (x : D) : D__law_round [.sh (.int 26)] [x] = some (.ok (.sh (lisI (tab 26))) [x]) := by kernel_rfl
theorem lr_27 (x : D) : D__law_round [.sh (.int 27)] [x] = some (.ok (.sh (lisI (tab 27))) [x]) := by kernel_rfl
theorem lr_28 (x : D) : D__law_round [.sh (.int 28)] [x] = some (.ok (.sh (lisI (tab 28))) [x]) := by kernel_rfl
theorem lr_29 (x : D) : D__law_round [.sh (.int 29)] [x] = some (.ok (.sh (lisI (tab 29))) [x]) := by kernel_rfl
theorem lr_30 (x : D) : D__law_round [.sh (.int 30)] [x] = some (.ok (.sh (lisI (tab 30))) [x]) := by kernel_rfl
theorem lr_31 (x : D) : D__law_round [.sh (.int 31)] [x] = some (.ok (.sh (lisI (tab 31))) [x]) := by kernel_rfl
theorem lr_32 (x : D) : D__law_round [.sh (.int 32)] [x] = some (.ok (.sh (lisI (tab 32))) [x]) := by kernel_rfl
theorem lr_33 (x : D) : D__law_round [.sh (.int 33)] [x] = some (.ok (.sh (lisI (tab 33))) [x]) := by kernel_rfl
theorem lr_34 (x : D) : D__law_round [.sh (.int 34)] [x] = some (.ok (.sh (lisI (tab 34))) [x]) := by kernel_rfl
theorem lr_35 (x : D) : D__law_round [.sh (.int 35)] [x] = some (.ok (.sh (lisI (tab 35))) [x]) := by kernel_rfl
theorem lr_36 (x : D) : D__law_round [.sh (.int 36)] [x] = some (.ok (.sh (lisI (tab 36))) [x]) := by kernel_rfl
theorem lr_all (x : D) : ∀ d : Nat, 1 ≤ d → d ≤ 36 → D__law_round [.sh (.int (d : Int))] [x] = some (.ok (.sh (lisI (tab (d : Int)))) [x])
  | 1, _, _ => lr_1 x
  | 2, _, _ => lr_2 x
  | 3, _, _ => lr_3 x
  | 4, _, _ => lr_4 x
  | 5, _, _ => lr_5 x
  | 6, _, _ => lr_6 x
  | 7, _, _ => lr_7 x
  | 8, _, _ => lr_8 x
  | 9, _, _ => lr_9 x
  | 10, _, _ => lr_10 x
  | 11, _, _ => lr_11 x
  | 12, _, _ => lr_12 x
  | 13, _, _ => lr_13 x
  | 14, _, _ => lr_14 x
  | 15, _, _ => lr_15 x
  | 16, _, _ => lr_16 x
  | 17, _, _ => lr_17 x
  | 18, _, _ => lr_18 x
  | 19, _, _ => lr_19 x
  | 20, _, _ => lr_20 x
  | 21, _, _ => lr_21 x
  | 22, _, _ => lr_22 x
  | 23, _, _ => lr_23 x
  | 24, _, _ => lr_24 x
  | 25, _, _ => lr_25 x
  | 26, _, _ => lr_26 x
  | 27, _, _ => lr_27 x
  | 28, _, _ => lr_28 x
  | 29, _, _ => lr_29 x
  | 30, _, _ => lr_30 x
  | 31, _, _ => lr_31 x
  | 32, _, _ => lr_32 x
  | 33, _, _ => lr_33 x
  | 34, _, _ => lr_34 x
  | 35, _, _ => lr_35 x
  | 36, _, _ => lr_36 x
  | 0, h, _ => absurd h (by decide)
  | n + 37, _, h => absurd h (by omega)
def rpF : Fn := fun vs S => match vs, S with
  | [.sh (.int d)], [x] => if 1 ≤ d ∧ d ≤ 36 then some (.ok (.sh (tupI (tab d))) [x]) else D_round_polynomial [.sh (.int d)] [x]
  | vs, S => D_round_polynomial vs S
def lrF : Fn := fun vs S => match vs, S with
  | [.sh (.int d)], [x] => if 1 ≤ d ∧ d ≤ 36 then some (.ok (.sh (lisI (tab d))) [x]) else D__law_round [.sh (.int d)] [x]
  | vs, S => D__law_round vs S
theorem rp_eq : D_round_polynomial = rpF := by
  funext vs S
  unfold rpF
  split
  · rename_i d x
    split
    · rename_i h
      have := rp_all x d.toNat (by omega) (by omega)
      rw [Int.toNat_of_nonneg (by omega)] at this
      exact this
    · rfl
  · rfl
theorem lr_eq : D__law_round = lrF := by
  funext vs S
  unfold lrF
  split
  · rename_i d x
    split
    · rename_i h
      have := lr_all x d.toNat (by omega) (by omega)
      rw [Int.toNat_of_nonneg (by omega)] at this
      exact this
    · rfl
  · rfl
end GK48
end

section
set_option Elab.async false
set_option linter.all false
set_option maxRecDepth 100000
set_option maxHeartbeats 4000000
namespace GK48
open PySem Tn PyProof.Rows
def p_law_0 : XS := (sAsg 1 (aCall D__law_box (asC (aS 0) as0)))
def p_law_1 : XS := (sSet 2 (x2 opAdd (xK (.int 1)) (xCall D__law_take (asC (aR 1) (asC (aD (xK (.int 36))) as0)))))
def p_law_2 : XS := (sSet 3 (xCall D_round_polynomial (asC (aD (xV 2)) as0)))
def p_law_3 : XS := (sIf (tOr (tNot (tV (x1 (opIs Ty.tuple) (xV 3)))) (tOr (tV (x2 opNe (xFz (lComp (iSeq (xV 3)) (.nm 4) (tNot (tV (xCall D__law_whole (asC (aD (xV 4)) as0)))) (xV 4) [4])) (xFz (lDisp xs0)))) (tOr (tV (x2 opNe (x2 opIx (xV 3) (x1 opNeg (xK (.int 1)))) (xK (.int 1)))) (tV (x2 opNe (xFz (l1 seqOf (xV 3))) (xCall D__law_round (asC (aD (xV 2)) as0)))))))
    (sRet (xK (.bool false)))
    sPass)
def p_law_4 : XS := (sIf (tV (x2 opNe (x2 opSub (x1 opLen (xV 3)) (xK (.int 1))) (x1 opLen (xFz (lComp (iR2 (xK (.int 1)) (x2 opAdd (xV 2) (xK (.int 1)))) (.nm 5) (tV (x2 opEq (xCall D__law_common (asC (aD (xV 5)) (asC (aD (xV 2)) as0))) (xK (.int 1)))) (xV 5) [5])))))
    (sRet (xK (.bool false)))
    sPass)
def p_law_5 : XS := (sSet 6 (xFz (lDisp (xsC (xK (.int 1)) xs0))))
def p_law_6 : XS := (sFor (iR2 (xK (.int 1)) (x2 opAdd (xV 2) (xK (.int 1)))) (.nm 7)
    (sIf (tV (x2 opEq (x2 opMod (xV 2) (xV 7)) (xK (.int 0))))
    (sSet 6 (xCall D__law_times (asC (aD (xV 6)) (asC (aD (xFz (l1 seqOf (xCall D_round_polynomial (asC (aD (xV 7)) as0))))) as0))))
    sPass))
def p_law_7 : XS := (sIf (tV (x2 opNe (xV 6) (xFz (lCat (xFz (lCat (xFz (lDisp (xsC (x1 opNeg (xK (.int 1))) xs0))) (xFz (lRep (lDisp (xsC (xK (.int 0)) xs0)) (x2 opSub (xV 2) (xK (.int 1))))))) (xFz (lDisp (xsC (xK (.int 1)) xs0)))))))
    (sRet (xK (.bool false)))
    sPass)
def p_law_8 : XS := (sSet 8 (xFz (lComp (iR2 (xK (.int 2)) (x2 opAdd (xV 2) (xK (.int 1)))) (.nm 9) (tAnd (tV (x2 opEq (x2 opMod (xV 2) (xV 9)) (xK (.int 0)))) (tV (x2 opEq (xFz (lComp (iR2 (xK (.int 2)) (xV 9)) (.nm 10) (tV (x2 opEq (x2 opMod (xV 9) (xV 10)) (xK (.int 0)))) (xV 10) [10])) (xFz (lDisp xs0))))) (xV 9) [9])))
def p_law_9 : XS := (sIf (tOr (tV (x2 opNe (x1 opSum (xV 3)) (xIf (tV (x2 opEq (xV 2) (xK (.int 1)))) (xK (.int 0)) (xIf (tV (x2 opEq (x1 opLen (xV 8)) (xK (.int 1)))) (x2 opIx (xV 8) (xK (.int 0))) (xK (.int 1)))))) (tAnd (tV (x2 opGt (xV 2) (xK (.int 1)))) (tV (x2 opNe (xV 3) (x1 opRevT (xV 3))))))
    (sRet (xK (.bool false)))
    sPass)
def p_law_10 : XS := (sIf (tOr (tV (x2 opNe (xCall D_round_polynomial (asC (aD (xK (.int 12))) as0)) (xTup (xsC (xK (.int 1)) (xsC (xK (.int 0)) (xsC (x1 opNeg (xK (.int 1))) (xsC (xK (.int 0)) (xsC (xK (.int 1)) xs0)))))))) (tV (x2 opNe (xCall D_round_polynomial (asC (aD (xK (.int 30))) as0)) (xTup (xsC (xK (.int 1)) (xsC (xK (.int 1)) (xsC (xK (.int 0)) (xsC (x1 opNeg (xK (.int 1))) (xsC (x1 opNeg (xK (.int 1))) (xsC (x1 opNeg (xK (.int 1))) (xsC (xK (.int 0)) (xsC (xK (.int 1)) (xsC (xK (.int 1)) xs0)))))))))))))
    (sRet (xK (.bool false)))
    sPass)
def p_law_11 : XS := (sRet (x2 opEq (xLam (refusal o__law_word r__law_word) (xCall D_round_polynomial (asC (aD (xCall D__law_pick (asC (aR 1) (asC (aD (xFz (lDisp (xsC (xK (.int 0)) (xsC (xK (.int 37)) (xsC (x1 opNeg (xK (.int 1))) (xsC (xK (.bool true)) (xsC (xK .none) (xsC (xK (.str "3")) xs0))))))))) as0)))) as0))) (xK (.str "bad"))))
def t_law_11 : XS := p_law_11
def t_law_10 : XS := (sSeq p_law_10 t_law_11)
def t_law_9 : XS := (sSeq p_law_9 t_law_10)
def t_law_8 : XS := (sSeq p_law_8 t_law_9)
def t_law_7 : XS := (sSeq p_law_7 t_law_8)
def t_law_6 : XS := (sSeq p_law_6 t_law_7)
def t_law_5 : XS := (sSeq p_law_5 t_law_6)
def t_law_4 : XS := (sSeq p_law_4 t_law_5)
def t_law_3 : XS := (sSeq p_law_3 t_law_4)
def t_law_2 : XS := (sSeq p_law_2 t_law_3)
def t_law_1 : XS := (sSeq p_law_1 t_law_2)
def t_law_0 : XS := (sSeq p_law_0 t_law_1)
theorem parts_law : b_law = t_law_0 := rfl
theorem take_is : D__law_take = takeF := rfl
theorem box_is : D__law_box = boxF := rfl
theorem pick_is : D__law_pick = pickF := rfl
def mid : XS := sSeq (sSeq (sSeq (sSeq (sSeq (sSeq (sSeq (sSeq p_law_2 p_law_3) p_law_4) p_law_5) p_law_6) p_law_7) p_law_8) p_law_9) p_law_10
def q_law_2 : XS := (sSet 3 (xCall rpF (asC (aD (xV 2)) as0)))
def q_law_3 : XS := (sIf (tOr (tNot (tV (x1 (opIs Ty.tuple) (xV 3)))) (tOr (tV (x2 opNe (xFz (lComp (iSeq (xV 3)) (.nm 4) (tNot (tV (xCall D__law_whole (asC (aD (xV 4)) as0)))) (xV 4) [4])) (xFz (lDisp xs0)))) (tOr (tV (x2 opNe (x2 opIx (xV 3) (x1 opNeg (xK (.int 1)))) (xK (.int 1)))) (tV (x2 opNe (xFz (l1 seqOf (xV 3))) (xCall lrF (asC (aD (xV 2)) as0)))))))
    (sRet (xK (.bool false)))
    sPass)
def q_law_4 : XS := (sIf (tV (x2 opNe (x2 opSub (x1 opLen (xV 3)) (xK (.int 1))) (x1 opLen (xFz (lComp (iR2 (xK (.int 1)) (x2 opAdd (xV 2) (xK (.int 1)))) (.nm 5) (tV (x2 opEq (xCall D__law_common (asC (aD (xV 5)) (asC (aD (xV 2)) as0))) (xK (.int 1)))) (xV 5) [5])))))
    (sRet (xK (.bool false)))
    sPass)
def q_law_5 : XS := (sSet 6 (xFz (lDisp (xsC (xK (.int 1)) xs0))))
def q_law_6 : XS := (sFor (iR2 (xK (.int 1)) (x2 opAdd (xV 2) (xK (.int 1)))) (.nm 7)
    (sIf (tV (x2 opEq (x2 opMod (xV 2) (xV 7)) (xK (.int 0))))
    (sSet 6 (xCall D__law_times (asC (aD (xV 6)) (asC (aD (xFz (l1 seqOf (xCall rpF (asC (aD (xV 7)) as0))))) as0))))
    sPass))
def q_law_7 : XS := (sIf (tV (x2 opNe (xV 6) (xFz (lCat (xFz (lCat (xFz (lDisp (xsC (x1 opNeg (xK (.int 1))) xs0))) (xFz (lRep (lDisp (xsC (xK (.int 0)) xs0)) (x2 opSub (xV 2) (xK (.int 1))))))) (xFz (lDisp (xsC (xK (.int 1)) xs0)))))))
    (sRet (xK (.bool false)))
    sPass)
def q_law_8 : XS := (sSet 8 (xFz (lComp (iR2 (xK (.int 2)) (x2 opAdd (xV 2) (xK (.int 1)))) (.nm 9) (tAnd (tV (x2 opEq (x2 opMod (xV 2) (xV 9)) (xK (.int 0)))) (tV (x2 opEq (xFz (lComp (iR2 (xK (.int 2)) (xV 9)) (.nm 10) (tV (x2 opEq (x2 opMod (xV 9) (xV 10)) (xK (.int 0)))) (xV 10) [10])) (xFz (lDisp xs0))))) (xV 9) [9])))
def q_law_9 : XS := (sIf (tOr (tV (x2 opNe (x1 opSum (xV 3)) (xIf (tV (x2 opEq (xV 2) (xK (.int 1)))) (xK (.int 0)) (xIf (tV (x2 opEq (x1 opLen (xV 8)) (xK (.int 1)))) (x2 opIx (xV 8) (xK (.int 0))) (xK (.int 1)))))) (tAnd (tV (x2 opGt (xV 2) (xK (.int 1)))) (tV (x2 opNe (xV 3) (x1 opRevT (xV 3))))))
    (sRet (xK (.bool false)))
    sPass)
def q_law_10 : XS := (sIf (tOr (tV (x2 opNe (xCall rpF (asC (aD (xK (.int 12))) as0)) (xTup (xsC (xK (.int 1)) (xsC (xK (.int 0)) (xsC (x1 opNeg (xK (.int 1))) (xsC (xK (.int 0)) (xsC (xK (.int 1)) xs0)))))))) (tV (x2 opNe (xCall rpF (asC (aD (xK (.int 30))) as0)) (xTup (xsC (xK (.int 1)) (xsC (xK (.int 1)) (xsC (xK (.int 0)) (xsC (x1 opNeg (xK (.int 1))) (xsC (x1 opNeg (xK (.int 1))) (xsC (x1 opNeg (xK (.int 1))) (xsC (xK (.int 0)) (xsC (xK (.int 1)) (xsC (xK (.int 1)) xs0)))))))))))))
    (sRet (xK (.bool false)))
    sPass)
def midq : XS := sSeq (sSeq (sSeq (sSeq (sSeq (sSeq (sSeq (sSeq q_law_2 q_law_3) q_law_4) q_law_5) q_law_6) q_law_7) q_law_8) q_law_9) q_law_10
theorem mid_eq : mid = midq := by
  unfold mid midq p_law_2 p_law_3 p_law_4 p_law_5 p_law_6 p_law_7 p_law_8 p_law_9 p_law_10 q_law_2 q_law_3 q_law_4 q_law_5 q_law_6 q_law_7 q_law_8 q_law_9 q_law_10
  rw [rp_eq, lr_eq]
theorem seq_as (a b c : XS) : sSeq a (sSeq b c) = sSeq (sSeq a b) c := by
  funext ε
  unfold sSeq
  rw [bnd_bnd]
  congr 1
  funext r
  cases r <;> rfl
def ev (s0 : Sl) (d : Int) : Ev := [s0, .rf 0, .sh (.int d), .un, .un, .un, .un, .un, .un, .un, .un]
def eo (r : Option (Res SR)) : Option (List D × Option Sl) := match r with
  | some (.ok (.nx ε) S) => some (S, ε[1]?)
  | _ => none
theorem mid_1 (s0 : Sl) (x : D) : eo (midq (ev s0 1) [x]) = some ([x], some (.rf 0)) := by kernel_rfl
theorem mid_2 (s0 : Sl) (x : D) : eo (midq (ev s0 2) [x]) = some ([x], some (.rf 0)) := by kernel_rfl
theorem mid_3 (s0 : Sl) (x : D) : eo (midq (ev s0 3) [x]) = some ([x], some (.rf 0)) := by kernel_rfl
theorem mid_4 (s0 : Sl) (x : D) : eo (midq (ev s0 4) [x]) = some ([x], some (.rf 0)) := by kernel_rfl
theorem mid_5 (s0 : Sl) (x : D) : eo (midq (ev s0 5) [x]) = some ([x], some (.rf 0)) := by kernel_rfl
theorem mid_6 (s0 : Sl) (x : D) : eo (midq (ev s0 6) [x]) = some ([x], some (.rf 0)) := by kernel_rfl
theorem mid_7 (s0 : Sl) (x : D) : eo (midq (ev s0 7) [x]) = some ([x], some (.rf 0)) := by kernel_rfl
theorem mid_8 (s0 : Sl) (x : D) : eo (midq (ev s0 8) [x]) = some ([x], some (.rf 0)) := by kernel_rfl
theorem mid_9 (s0 : Sl) (x : D) : eo (midq (ev s0 9) [x]) = some ([x], some (.rf 0)) := by kernel_rfl
theorem mid_10 (s0 : Sl) (x : D) : eo (midq (ev s0 10) [x]) = some ([x], some (.rf 0)) := by kernel_rfl
theorem mid_11 (s0 : Sl) (x : D) : eo (midq (ev s0 11) [x]) = some ([x], some (.rf 0)) := by kernel_rfl
theorem mid_12 (s0 : Sl) (x : D) : eo (midq (ev s0 12) [x]) = some ([x], some (.rf 0)) := by kernel_rfl
theorem mid_13 (s0 : Sl) (x : D) : eo (midq (ev s0 13) [x]) = some ([x], some (.rf 0)) := by kernel_rfl
theorem mid_14 (s0 : Sl) (x : D) : eo (midq (ev s0 14) [x]) = some ([x], some (.rf 0)) := by kernel_rfl
theorem mid_15 (s0 : Sl) (x : D) : eo (midq (ev s0 15) [x]) = some ([x], some (.rf 0)) := by kernel_rfl
theorem mid_16 (s0 : Sl) (x : D) : eo (midq (ev s0 16) [x]) = some ([x], some (.rf 0)) := by kernel_rfl
theorem mid_17 (s0 : Sl) (x : D) : eo (midq (ev s0 17) [x]) = some ([x], some (.rf 0)) := by kernel_rfl
theorem mid_18 (s0 : Sl) (x : D) : eo (midq (ev s0 18) [x]) = some ([x], some (.rf 0)) := by kernel_rfl
theorem mid_19 (s0 : Sl) (x : D) : eo (midq (ev s0 19) [x]) = some ([x], some (.rf 0)) := by kernel_rfl
theorem mid_20 (s0 : Sl) (x : D) : eo (midq (ev s0 20) [x]) = some ([x], some (.rf 0)) := by kernel_rfl
theorem mid_21 (s0 : Sl) (x : D) : eo (midq (ev s0 21) [x]) = some ([x], some (.rf 0)) := by kernel_rfl
theorem mid_22 (s0 : Sl) (x : D) : eo (midq (ev s0 22) [x]) = some ([x], some (.rf 0)) := by kernel_rfl
theorem mid_23 (s0 : Sl) (x : D) : eo (midq (ev s0 23) [x]) = some ([x], some (.rf 0)) := by kernel_rfl
theorem mid_24 (s0 : Sl) (x : D) : eo (midq (ev s0 24) [x]) = some ([x], some (.rf 0)) := by kernel_rfl
theorem mid_25 (s0 : Sl) (x : D) : eo (midq (ev s0 25) [x]) = some ([x], some (.rf 0)) := by kernel_rfl
theorem mid_26 (s0 : Sl) (x : D) : eo (midq (ev s0 26) [x]) = some ([x], some (.rf 0)) := by kernel_rfl
theorem mid_27 (s0 : Sl) (x : D) : eo (midq (ev s0 27) [x]) = some ([x], some (.rf 0)) := by kernel_rfl
theorem mid_28 (s0 : Sl) (x : D) : eo (midq (ev s0 28) [x]) = some ([x], some (.rf 0)) := by kernel_rfl
theorem mid_29 (s0 : Sl) (x : D) : eo (midq (ev s0 29) [x]) = some ([x], some (.rf 0)) := by kernel_rfl
theorem mid_30 (s0 : Sl) (x : D) : eo (midq (ev s0 30) [x]) = some ([x], some (.rf 0)) := by kernel_rfl
theorem mid_31 (s0 : Sl) (x : D) : eo (midq (ev s0 31) [x]) = some ([x], some (.rf 0)) := by kernel_rfl
theorem mid_32 (s0 : Sl) (x : D) : eo (midq (ev s0 32) [x]) = some ([x], some (.rf 0)) := by kernel_rfl
theorem mid_33 (s0 : Sl) (x : D) : eo (midq (ev s0 33) [x]) = some ([x], some (.rf 0)) := by kernel_rfl
theorem mid_34 (s0 : Sl) (x : D) : eo (midq (ev s0 34) [x]) = some ([x], some (.rf 0)) := by kernel_rfl
theorem mid_35 (s0 : Sl) (x : D) : eo (midq (ev s0 35) [x]) = some ([x], some (.rf 0)) := by kernel_rfl
theorem mid_36 (s0 : Sl) (x : D) : eo (midq (ev s0 36) [x]) = some ([x], some (.rf 0)) := by kernel_rfl
theorem mid_all (s0 : Sl) (x : D) : ∀ d : Nat, 1 ≤ d → d ≤ 36 → eo (midq (ev s0 (d : Int)) [x]) = some ([x], some (.rf 0))
  | 1, _, _ => mid_1 s0 x
  | 2, _, _ => mid_2 s0 x
  | 3, _, _ => mid_3 s0 x
  | 4, _, _ => mid_4 s0 x
  | 5, _, _ => mid_5 s0 x
  | 6, _, _ => mid_6 s0 x
  | 7, _, _ => mid_7 s0 x
  | 8, _, _ => mid_8 s0 x
  | 9, _, _ => mid_9 s0 x
  | 10, _, _ => mid_10 s0 x
  | 11, _, _ => mid_11 s0 x
  | 12, _, _ => mid_12 s0 x
  | 13, _, _ => mid_13 s0 x
  | 14, _, _ => mid_14 s0 x
  | 15, _, _ => mid_15 s0 x
  | 16, _, _ => mid_16 s0 x
  | 17, _, _ => mid_17 s0 x
  | 18, _, _ => mid_18 s0 x
  | 19, _, _ => mid_19 s0 x
  | 20, _, _ => mid_20 s0 x
  | 21, _, _ => mid_21 s0 x
  | 22, _, _ => mid_22 s0 x
  | 23, _, _ => mid_23 s0 x
  | 24, _, _ => mid_24 s0 x
  | 25, _, _ => mid_25 s0 x
  | 26, _, _ => mid_26 s0 x
  | 27, _, _ => mid_27 s0 x
  | 28, _, _ => mid_28 s0 x
  | 29, _, _ => mid_29 s0 x
  | 30, _, _ => mid_30 s0 x
  | 31, _, _ => mid_31 s0 x
  | 32, _, _ => mid_32 s0 x
  | 33, _, _ => mid_33 s0 x
  | 34, _, _ => mid_34 s0 x
  | 35, _, _ => mid_35 s0 x
  | 36, _, _ => mid_36 s0 x
  | 0, h, _ => absurd h (by decide)
  | n + 37, _, h => absurd h (by omega)
end GK48
end

section
set_option Elab.async false
set_option linter.all false
set_option maxRecDepth 100000
set_option maxHeartbeats 4000000
namespace GK48
open PySem Tn PyProof.Rows
def menu48 : List D := [.int 0, .int 37, .int (-1), .bool true, .none, .str "3"]
theorem bad_ok {d : D} (h : d ∈ menu48) (x : D) : D_round_polynomial [.sh d] [x] = some (.ex .bad [x]) := by
  unfold menu48 at h
  simp only [List.mem_cons, List.not_mem_nil, or_false] at h
  rcases h with rfl | rfl | rfl | rfl | rfl | rfl <;> kernel_rfl
theorem of_ex {r : Option (Res Sl)} {x : D} (h : r = some (.ex .bad [x])) {Q : Sl → List D → Prop} {E : Ex → List D → Prop} : Wp r Q E ↔ E .bad [x] := by rw [h]; exact Iff.rfl
theorem box_one {S : List D} (h : Box S) : ∃ x, S = [x] := by obtain ⟨a, b, c, cells, hc, rfl⟩ := h; exact ⟨_, rfl⟩
theorem lkb : List.lookup Ex.bad r__law_word = some (.str "bad") := rfl
theorem L11 {ε : Ev} {S : List D} (h1 : ε[1]? = some (.rf 0)) (hS : Box S) : Okk PT t_law_11 ε S := by
  refine ⟨?_⟩
  have e1 : opEq (.str "bad") (.str "bad") = some (.bool true) := rfl
  unfold t_law_11 p_law_11
  simp (implicitDefEqProofs := false) only [↓wp_sIf, ↓wp_xAnd, ↓wp_xOr, ↓R1, R2, if_true, if_false, ite_true, ite_false, has, mutL, isArg, reduceCtorEq, Int.reduceEq, Int.reduceLT, Int.reduceLE, Int.reduceNeg, Int.reduceAdd, Int.reduceSub, Int.reduceMul, Nat.reduceAdd, Nat.reduceLT, Nat.reduceSub, R3, List.reduceReplicate, Tn.wip, wp_xLam, wp_refusal, pick_is, h1]
  refine pick_then hS (by intro h; cases h) (by simp only [List.length_cons, List.length_nil]; decide) fun d S1 hd hS1 => ?_
  have hd : d ∈ menu48 := hd
  obtain ⟨x, rfl⟩ := box_one hS1
  simp (implicitDefEqProofs := false) only [↓wp_sIf, ↓wp_xAnd, ↓wp_xOr, ↓R1, R2, if_true, if_false, ite_true, ite_false, has, mutL, isArg, reduceCtorEq, Int.reduceEq, Int.reduceLT, Int.reduceLE, Int.reduceNeg, Int.reduceAdd, Int.reduceSub, Int.reduceMul, Nat.reduceAdd, Nat.reduceLT, Nat.reduceSub, R3, List.reduceReplicate, Tn.wip, of_ex (bad_ok hd x), lkb, e1]
theorem two_is : t_law_2 = sSeq mid t_law_11 := by
  have e : t_law_2 = sSeq p_law_2 (sSeq p_law_3 (sSeq p_law_4 (sSeq p_law_5 (sSeq p_law_6 (sSeq p_law_7 (sSeq p_law_8 (sSeq p_law_9 (sSeq p_law_10 t_law_11)))))))) := rfl
  rw [e]
  unfold mid
  simp only [seq_as]
theorem L2' {s0 : Sl} {S : List D} {d : Nat} (h1 : 1 ≤ d) (h2 : d ≤ 36) (hS : Box S) : Okk PT t_law_2 (ev s0 (d : Int)) S := by
  refine ⟨?_⟩
  obtain ⟨x, rfl⟩ := box_one hS
  have hm := mid_all s0 x d h1 h2
  rw [two_is, mid_eq, wp_sSeq]
  generalize midq (ev s0 (d : Int)) [x] = r at hm
  unfold eo at hm
  split at hm
  · rename_i ε S' 
    have hm := Option.some.inj hm
    rw [Prod.mk.injEq] at hm
    obtain ⟨rfl, h⟩ := hm
    exact (L11 h hS).h
  · cases hm
theorem law_true : ∀ ns : List Int, ns.length ≤ 63 → (∀ z ∈ ns, Builtin.Int.intBits z ≤ 1048576) → ∃ S', D_law [.sc (.list (ns.map .int))] [] = some (.ok (.sh (.bool true)) S') := by
  intro ns _ _
  refine law_of (F := D_law) rfl ?_ rfl
  rw [parts_law]
  unfold t_law_0; try unfold p_law_0
  simp (implicitDefEqProofs := false) only [↓wp_sIf, ↓wp_xAnd, ↓wp_xOr, ↓R1, R2, if_true, if_false, ite_true, ite_false, has, mutL, isArg, reduceCtorEq, Int.reduceEq, Int.reduceLT, Int.reduceLE, Int.reduceNeg, Int.reduceAdd, Int.reduceSub, Int.reduceMul, Nat.reduceAdd, Nat.reduceLT, Nat.reduceSub, R3, List.reduceReplicate, Tn.wip, box_is]
  refine box_then fun S0 hS0 => ?_
  generalize Sl.sc (.list (ns.map .int)) = s0
  simp (implicitDefEqProofs := false) only [↓wp_sIf, ↓wp_xAnd, ↓wp_xOr, ↓R1, R2, if_true, if_false, ite_true, ite_false, has, mutL, isArg, reduceCtorEq, Int.reduceEq, Int.reduceLT, Int.reduceLE, Int.reduceNeg, Int.reduceAdd, Int.reduceSub, Int.reduceMul, Nat.reduceAdd, Nat.reduceLT, Nat.reduceSub, R3, List.reduceReplicate, Tn.wip]
  unfold t_law_1; try unfold p_law_1
  simp (implicitDefEqProofs := false) only [↓wp_sIf, ↓wp_xAnd, ↓wp_xOr, ↓R1, R2, if_true, if_false, ite_true, ite_false, has, mutL, isArg, reduceCtorEq, Int.reduceEq, Int.reduceLT, Int.reduceLE, Int.reduceNeg, Int.reduceAdd, Int.reduceSub, Int.reduceMul, Nat.reduceAdd, Nat.reduceLT, Nat.reduceSub, R3, List.reduceReplicate, Tn.wip, take_is]
  refine take_then hS0 (by decide) (by decide) fun v S1 hv hS1 => ?_
  have e2 : (1 : Int) + (v : Int) = ((1 + v : Nat) : Int) := by omega
  simp (implicitDefEqProofs := false) only [↓wp_sIf, ↓wp_xAnd, ↓wp_xOr, ↓R1, R2, if_true, if_false, ite_true, ite_false, has, mutL, isArg, reduceCtorEq, Int.reduceEq, Int.reduceLT, Int.reduceLE, Int.reduceNeg, Int.reduceAdd, Int.reduceSub, Int.reduceMul, Nat.reduceAdd, Nat.reduceLT, Nat.reduceSub, R3, List.reduceReplicate, Tn.wip, e2]
  exact okk_w (L2' (s0 := s0) (d := 1 + v) (by omega) (by omega) hS1)
end GK48
end
open PySem PySem.W PyProof.Rows
set_option maxRecDepth 100000 in
set_option maxHeartbeats 0 in
theorem PySem.Challenge.cw_tunehouse_k48_round_polynomials_holds : PySem.Challenge.rw_tunehouse_k48_round_polynomials.Holds := by
  w_on; o_law; k_head; (case hw => w_witness2)
  k_fill
  refine Tn.walk_ofG (l := PySem.Challenge.rw_tunehouse_k48_round_polynomials) (n := 63) (k := 17) (x := "script") rfl (by decide) rfl ⟨rfl, by decide, by decide⟩ (fun w h Y => PySem.W.km_in_of Y) ?F
  case F =>
    intro w mg fa h Y KX G hmg
    have tb := PySem.W.km_tabs_of Y
    refine' GK48.all_mk KX G hmg ?a_is_number ?l_is_number ?c_is_number ?k_is_number ?a_parted ?l_parted ?c_parted ?k_parted ?a_round_of ?l_round_of ?c_round_of ?k_round_of ?a_round_polynomial ?l_round_polynomial ?c_round_polynomial ?k_round_polynomial ?a__law_box ?l__law_box ?c__law_box ?k__law_box ?a__law_take ?l__law_take ?c__law_take ?k__law_take ?a__law_pick ?l__law_pick ?c__law_pick ?k__law_pick ?a__law_common ?l__law_common ?c__law_common ?k__law_common ?a__law_whole ?l__law_whole ?c__law_whole ?k__law_whole ?a__law_word ?l__law_word ?c__law_word ?k__law_word ?a__law_by ?l__law_by ?c__law_by ?k__law_by ?a__law_round ?l__law_round ?c__law_round ?k__law_round ?a__law_times ?l__law_times ?c__law_times ?k__law_times ?a_law ?l_law ?c_law ?k_law ?t_law ?e_law ?h_law ?n_law ?m_MOST_ROUND ?xg1 ?xg2 ?xg3 ?xq1 ?xq2 ?xq3 ?xk1 ?xk2 ?xk3 ?xs1 ?xs2 ?xs3 ?xt1 ?xt2 ?xt3 ?xm11 ?xm12 ?xm13 ?xm21 ?xm22 ?xm23 ?xm31 ?xm32 ?xm33 ?z_abs ?z_bool ?z_int ?z_isinstance ?z_len ?z_list ?z_range ?z_sum ?z_tuple GK48.law_true
    (case a_is_number => k_is)
    (case l_is_number => k_is)
    (case c_is_number => k_is)
    (case k_is_number => k_is)
    (case a_parted => k_is)
    (case l_parted => k_is)
    (case c_parted => k_is)
    (case k_parted => k_is)
    (case a_round_of => k_is)
    (case l_round_of => k_is)
    (case c_round_of => k_is)
    (case k_round_of => k_is)
    (case a_round_polynomial => k_is)
    (case l_round_polynomial => k_is)
    (case c_round_polynomial => k_is)
    (case k_round_polynomial => k_is)
    (case a__law_box => k_is)
    (case l__law_box => k_is)
    (case c__law_box => k_is)
    (case k__law_box => k_is)
    (case a__law_take => k_is)
    (case l__law_take => k_is)
    (case c__law_take => k_is)
    (case k__law_take => k_is)
    (case a__law_pick => k_is)
    (case l__law_pick => k_is)
    (case c__law_pick => k_is)
    (case k__law_pick => k_is)
    (case a__law_common => k_is)
    (case l__law_common => k_is)
    (case c__law_common => k_is)
    (case k__law_common => k_is)
    (case a__law_whole => k_is)
    (case l__law_whole => k_is)
    (case c__law_whole => k_is)
    (case k__law_whole => k_is)
    (case a__law_word => k_is)
    (case l__law_word => k_is)
    (case c__law_word => k_is)
    (case k__law_word => k_is)
    (case a__law_by => k_is)
    (case l__law_by => k_is)
    (case c__law_by => k_is)
    (case k__law_by => k_is)
    (case a__law_round => k_is)
    (case l__law_round => k_is)
    (case c__law_round => k_is)
    (case k__law_round => k_is)
    (case a__law_times => k_is)
    (case l__law_times => k_is)
    (case c__law_times => k_is)
    (case k__law_times => k_is)
    (case a_law => k_is)
    (case l_law => k_is)
    (case c_law => k_is)
    (case k_law => k_is)
    (case t_law => rfl)
    (case e_law => exact tb _ List.mem_cons_self)
    (case h_law => kernel_rfl)
    (case n_law => kernel_rfl)
    (case m_MOST_ROUND => k_is)
    (case xg1 => k_is)
    (case xg2 => k_is)
    (case xg3 => k_is)
    (case xq1 => kernel_rfl)
    (case xq2 => kernel_rfl)
    (case xq3 => kernel_rfl)
    (case xk1 => k_is)
    (case xk2 => k_is)
    (case xk3 => k_is)
    (case xs1 => k_is)
    (case xs2 => k_is)
    (case xs3 => k_is)
    (case xt1 => k_is)
    (case xt2 => k_is)
    (case xt3 => k_is)
    (case xm11 => first | rfl | k_is)
    (case xm12 => first | rfl | k_is)
    (case xm13 => first | rfl | k_is)
    (case xm21 => first | rfl | k_is)
    (case xm22 => first | rfl | k_is)
    (case xm23 => first | rfl | k_is)
    (case xm31 => first | rfl | k_is)
    (case xm32 => first | rfl | k_is)
    (case xm33 => first | rfl | k_is)
    (case z_abs => k_is)
    (case z_bool => k_is)
    (case z_int => k_is)
    (case z_isinstance => k_is)
    (case z_len => k_is)
    (case z_list => k_is)
    (case z_range => k_is)
    (case z_sum => k_is)
    (case z_tuple => k_is)
