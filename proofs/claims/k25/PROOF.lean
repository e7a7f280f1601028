import PyProof.Rows.All
import Wide.All
import OpenK.AllK
import Wide.FinOn
import HandS.ForMost
import HandS.ForExc
import HandS.Deep
import KE.DataFind
import KE.DataMinMax
import KE.SortData
import KE.KeyNested
import HandS.TupMul
import HandS.TupAny
import HandS.Flow
import HandS.Iter
import HandS.ExcOwn
import HandS.Defaults
import HandS.Ends
import HandS.Style
import KE.SortCalls
import HandS.SetFor
import HandS.Strs
import HandS.SortInts
import KE.DataCmp
import PyProof.ReprRoads
import HandS.Conv
import KE.DataIsa
import HandS.Dict
import HandS.HeadEnd
import KE.KStateDown
import HandS.More
import HandS.Words
import HandS.WordsExc
import HandS.Head0
import HandS.Head1
import HandS.Head2
import HandS.HeadHook1
import HandS.HeadHook2
import KE.DataEq
import PyProof.FitsInt
import HandS.FStrTup
import Lean
import PySem.Challenge.RW_firstbreak_k25_no_fewer_do
set_option Elab.async false
set_option linter.all false
set_option maxRecDepth 100000
set_option maxHeartbeats 0
/-! EvA: a small language of terms (E, S), what it computes (evE, evS, callN) over plain data. -/
namespace Ev
open PySem

/-- a value: data, or the place of an object -/
inductive W where
  | d (x : PyData)
  | l (n : Nat)

/-- an object that may change -/
inductive Ob where
  | lst (xs : List PyData)
  | lsw (ws : List W)
  | dct (kvs : List (PyData × PyData))
  | dki (kvs : List (Int × PyData))
  | dead

abbrev Hq := List Ob
inductive R (α : Type) where
  | ok (a : α) (h : Hq)
  | ex (c : Nat) (ds : List PyData) (h : Hq)
  | bad

def R.bind {α β : Type} (r : R α) (f : α → Hq → R β) : R β := match r with
  | .ok a h => f a h
  | .ex c ds h => .ex c ds h
  | .bad => .bad

theorem bind_ok {α β : Type} (a : α) (h : Hq) (f : α → Hq → R β) : (R.ok a h).bind f = f a h := rfl
theorem bind_ex {α β : Type} (c : Nat) (ds : List PyData) (h : Hq) (f : α → Hq → R β) : (R.ex c ds h : R α).bind f = .ex c ds h := rfl
theorem bind_bad {α β : Type} (f : α → Hq → R β) : (R.bad : R α).bind f = .bad := rfl

/-- built-in functions -/
inductive Bt where
  | len | tuple | int | sum | max | min | all | any | sorted | list | repr | str | max2 | min2
  deriving DecidableEq
/-- methods of built-in types -/
inductive Mt where
  | count | index | get | pop
  deriving DecidableEq

/-- the classes that isinstance is asked of -/
inductive Ity where
  | int | bool | str | tuple
  deriving DecidableEq
def isaD : Ity → PyData → Bool
  | .int, .int _ => true
  | .int, .bool _ => true
  | .bool, .bool _ => true
  | .str, .str _ => true
  | .tuple, .tuple _ => true
  | _, _ => false

mutual
inductive E where
  | bad
  | dnew
  | dnewI
  | glb (x : Int)
  | trg (t : Bool) (a : E)
  | isa (c : Ity) (a : E)
  | dlg (kvs : List (Str × Int)) (k d : E)
  | var (i : Nat)
  | lit (c : PyData)
  | tup (es : Es)
  | lst (es : Es)
  | lstM (es : Es)
  | lsw (es : Es)
  | bin (o : Operator) (a b : E)
  | binM (o : Operator) (a b : E)
  | neg (a : E)
  | nt (a : E)
  | cmp (o : CmpOp) (a b : E)
  | isN (a : E)
  | isB (n k : Bool) (a : E)
  | notN (a : E)
  | cmp2 (o p : CmpOp) (a b c : E)
  | one (a : E)
  | and (a b : E)
  | or (a b : E)
  | ife (c a b : E)
  | idx (a i : E)
  | slc (a : E) (lo hi : Oe)
  | rev (a : E)
  | blt (f : Bt) (es : Es)
  | mth (f : Mt) (o : E) (es : Es)
  | call (f : Nat) (es : Es)
  | call0 (f : Nat)
  | sset (a : E)
  | lc (k : Nat) (t : List Nat) (u : Bool) (it : It) (c : Oe) (e : E)
inductive Es where
  | nil
  | cons (e : E) (es : Es)
inductive Oe where
  | none
  | some (e : E)
inductive It where
  | e (a : E)
  | rg1 (a : E)
  | rg2 (a b : E)
  | rgd (a b : E)
end

abbrev Vars := List (Option W)

def SZ : Nat := 16777216

def allD : List W → Option (List PyData)
  | [] => some []
  | .d x :: ws => (allD ws).map (x :: ·)
  | .l _ :: _ => none

/-- what a value is, read now -/
def toD (h : Hq) : W → Option PyData
  | .d x => some x
  | .l n => match h[n]? with
    | some (.lst xs) => some (.list xs)
    | _ => none

def allO : List (Option PyData) → Option (List PyData)
  | [] => some []
  | none :: _ => none
  | some x :: r => (allO r).map (x :: ·)
/-- what a value is, read now, lists of lists as well -/
def toDn : Nat → Hq → W → Option PyData
  | _, _, .d x => some x
  | 0, _, .l _ => none
  | k + 1, h, .l n => match h[n]? with
    | some (.lst xs) => some (.list xs)
    | some (.lsw ws) => (allO (ws.map (toDn k h))).map .list
    | _ => none
def toDD (h : Hq) (w : W) : Option PyData := toDn 3 h w

def maxI : List Int → Option Int
  | [] => none
  | x :: xs => match maxI xs with
    | none => some x
    | some m => some (if m < x then x else m)
def minI : List Int → Option Int
  | [] => none
  | x :: xs => match minI xs with
    | none => some x
    | some m => some (if x < m then x else m)
def liftO (o : Option PyData) (h : Hq) : R W := match o with
  | some x => .ok (.d x) h
  | none => .bad
def opM (f : PyData → PyData → Option PyData) (a b : W) (h : Hq) : R W := match toD h a, toD h b with
  | some d, some e => match f d e with
    | some (.list xs) => .ok (.l h.length) (h ++ [.lst xs])
    | _ => .bad
  | _, _ => .bad
def op2 (f : PyData → PyData → Option PyData) (a b : W) (h : Hq) : R W := match toD h a, toD h b with
  | some x, some y => liftO (f x y) h
  | _, _ => .bad

def sOk (i j : Int) : Bool := decide ((-(2 ^ 64) < i ∧ i < 2 ^ 64) ∨ (-(2 ^ 64) < j ∧ j < 2 ^ 64))
def divOk (j : Int) : Bool := decide (j ≠ 0 ∧ j.natAbs < 1073741824)
def powOk (i j : Int) : Bool := decide (0 ≤ j ∧ j ≤ 1000000 ∧ i.natAbs < 2 ^ 64)
def repOk (n : Nat) (k : Int) : Bool := decide (-(2 ^ 62) ≤ k ∧ k < 2 ^ 62 ∧ n * k.toNat ≤ SZ)
def repTOk (n : Nat) (k : Int) : Bool := decide (n ≤ 1000 ∧ -(2 ^ 62) ≤ k ∧ k ≤ 1000)
def repL {α : Type} (xs : List α) (k : Int) : List α := (List.replicate k.toNat xs).flatten

def evBin : Operator → PyData → PyData → Option PyData
  | .Add, .int i, .int j => some (.int (i + j))
  | .Add, .str x, .str y => if x.length + y.length ≤ SZ then some (.str (x ++ y)) else none
  | .Add, .list x, .list y => if x.length + y.length ≤ SZ then some (.list (x ++ y)) else none
  | .Add, .tuple x, .tuple y => if x.length + y.length ≤ SZ then some (.tuple (x ++ y)) else none
  | .Sub, .int i, .int j => some (.int (i - j))
  | .Mult, .int i, .int j => if sOk i j then some (.int (i * j)) else none
  | .Mult, .list x, .int k => if repOk x.length k then some (.list (repL x k)) else none
  | .Mult, .tuple x, .int k => if repTOk x.length k then some (.tuple (repL x k)) else none
  | .FloorDiv, .int i, .int j => if divOk j then some (.int (i.fdiv j)) else none
  | .Mod, .int i, .int j => if j ≠ 0 then some (.int (i.fmod j)) else none
  | .Pow, .int i, .int j => if powOk i j then some (.int (i ^ j.toNat)) else none
  | .LShift, .int i, .int j => if powOk i j then some (.int (i * 2 ^ j.toNat)) else none
  | _, _, _ => none

def dpt (d : PyData) : Bool := decide (d.depth ≤ 150)

def evCmp : CmpOp → PyData → PyData → Option PyData
  | .Lt, .int i, .int j => some (.bool (decide (i < j)))
  | .LtE, .int i, .int j => some (.bool (decide (i ≤ j)))
  | .Gt, .int i, .int j => some (.bool (decide (j < i)))
  | .GtE, .int i, .int j => some (.bool (decide (j ≤ i)))
  | .Lt, .tuple xs, .tuple ys => if PySem.W.alike (.tuple xs) (.tuple ys) && dpt (.tuple xs) then some (.bool (PySem.W.dataLt (.tuple xs) (.tuple ys))) else none
  | .LtE, .tuple xs, .tuple ys => if PySem.W.alike (.tuple xs) (.tuple ys) && dpt (.tuple xs) then some (.bool (!PySem.W.dataLt (.tuple ys) (.tuple xs))) else none
  | .Gt, .tuple xs, .tuple ys => if PySem.W.alike (.tuple xs) (.tuple ys) && dpt (.tuple xs) then some (.bool (PySem.W.dataLt (.tuple ys) (.tuple xs))) else none
  | .GtE, .tuple xs, .tuple ys => if PySem.W.alike (.tuple xs) (.tuple ys) && dpt (.tuple xs) then some (.bool (!PySem.W.dataLt (.tuple xs) (.tuple ys))) else none
  | .In, .str x, .str y => if x.length = 1 then some (.bool (y.cps.contains (x.cps.getD 0 0))) else none
  | .NotIn, .str x, .str y => if x.length = 1 then some (.bool (!y.cps.contains (x.cps.getD 0 0))) else none
  | .Eq, x, y => if dpt x || dpt y then some (.bool (PyData.eqv x y)) else none
  | .NotEq, x, y => if dpt x || dpt y then some (.bool (!PyData.eqv x y)) else none
  | .In, x, .list ys => if dpt x then some (.bool (ys.any fun y => PyData.eqv y x)) else none
  | .In, x, .tuple ys => if dpt x then some (.bool (ys.any fun y => PyData.eqv y x)) else none
  | .NotIn, x, .list ys => if dpt x then some (.bool (!ys.any fun y => PyData.eqv y x)) else none
  | .NotIn, x, .tuple ys => if dpt x then some (.bool (!ys.any fun y => PyData.eqv y x)) else none
  | _, _, _ => none

/-! dicts: their keys -/
mutual
def nkey : PyData → Option NestedKey
  | .none => some .none
  | .bool b => some (.num (if b = true then 1 else 0))
  | .int i => some (.num i)
  | .str x => some (.text x)
  | .tuple xs => (nkeys xs).map .tup
  | .list _ => none
  | .dict _ => none
def nkeys : List PyData → Option (List NestedKey)
  | [] => some []
  | x :: xs => match nkey x, nkeys xs with
    | some k, some ks => some (k :: ks)
    | _, _ => none
end
/-- a tuple that may be a key -/
def isKey : PyData → Bool
  | .tuple xs => (nkey (.tuple xs)).isSome && decide (PyData.depth (.tuple xs) ≤ 8)
  | _ => false
def keyEq (a b : PyData) : Bool := decide (nkey a = nkey b)
def dget (kvs : List (PyData × PyData)) (k : PyData) : Option PyData := (kvs.find? fun p => keyEq p.1 k).map (·.2)
def dput (kvs : List (PyData × PyData)) (k v : PyData) : List (PyData × PyData) := if (dget kvs k).isSome then kvs.map fun p => if keyEq p.1 k then (p.1, v) else p else kvs ++ [(k, v)]
def dctOf (h : Hq) : W → Option (List (PyData × PyData))
  | .l n => match h[n]? with
    | some (.dct kvs) => some kvs
    | _ => none
  | _ => none
/-! dicts whose keys are ints -/
def iget (kvs : List (Int × PyData)) (k : Int) : Option PyData := (kvs.find? fun p => decide (p.1 = k)).map (·.2)
def iput (kvs : List (Int × PyData)) (k : Int) (v : PyData) : List (Int × PyData) := if (iget kvs k).isSome then kvs.map fun p => if p.1 = k then (p.1, v) else p else kvs ++ [(k, v)]
def dkiOf (h : Hq) : W → Option (List (Int × PyData))
  | .l n => match h[n]? with
    | some (.dki kvs) => some kvs
    | _ => none
  | _ => none
def cmpI (o : CmpOp) (v w : W) (h : Hq) : R W := match dkiOf h w with
  | some kvs => match o, v with
    | .In, .d (.int k) => .ok (.d (.bool (iget kvs k).isSome)) h
    | .NotIn, .d (.int k) => .ok (.d (.bool (!(iget kvs k).isSome))) h
    | _, _ => .bad
  | none => .bad
/-- data of one kind, in order -/
def notNo : PyData → Bool
  | .none => false
  | _ => true
def alk (x y : PyData) : Bool := PySem.W.alike x y && notNo x && dpt x

/-- a comparison of two values -/
def cmpW (o : CmpOp) (v w : W) (h : Hq) : R W := match dctOf h w with
  | some kvs => match o, v with
    | .In, .d k => if isKey k then .ok (.d (.bool (dget kvs k).isSome)) h else .bad
    | .NotIn, .d k => if isKey k then .ok (.d (.bool (!(dget kvs k).isSome))) h else .bad
    | _, _ => .bad
  | none => match toDD h v, toDD h w with
    | some x, some y => liftO (evCmp o x y) h
    | _, _ => cmpI o v w h

/-- the place that an index of any sign means -/
def atZ {α : Type} (xs : List α) (i : Int) : Option α := L2.atI xs i
def cutL {α : Type} (xs : List α) (lo hi : Option Int) : List α := (xs.drop (HT.sIx xs.length 0 lo)).take (HT.sIx xs.length xs.length hi - HT.sIx xs.length 0 lo)

def evIdx (h : Hq) (a i : W) : R W := match a, i with
  | .d (.list xs), .d (.int k) => liftO (atZ xs k) h
  | .d (.tuple xs), .d (.int k) => liftO (atZ xs k) h
  | .d (.str s), .d (.int k) => if s.length ≤ SZ then match atZ s.cps.toList k with
    | some c => .ok (.d (.str ⟨#[c]⟩)) h
    | none => .bad
    else .bad
  | .l n, .d (.int k) => match h[n]? with
    | some (.lst xs) => liftO (atZ xs k) h
    | some (.lsw ws) => match atZ ws k with
      | some w => .ok w h
      | none => .bad
    | some (.dki kvs) => liftO (iget kvs k) h
    | _ => .bad
  | .l n, .d k => match h[n]? with
    | some (.dct kvs) => if isKey k then liftO (dget kvs k) h else .bad
    | _ => .bad
  | _, _ => .bad

def intO (w : Option W) : Option (Option Int) := match w with
  | none => some none
  | some (.d (.int i)) => some (some i)
  | _ => none
def evSlc (h : Hq) (a : W) (l u : Option Int) : R W := match toD h a with
  | some (.list xs) => .ok (.d (.list (cutL xs l u))) h
  | some (.tuple xs) => .ok (.d (.tuple (cutL xs l u))) h
  | _ => .bad
def evRev (h : Hq) (a : W) : R W := match toD h a with
  | some (.list xs) => .ok (.d (.list xs.reverse)) h
  | some (.tuple xs) => .ok (.d (.tuple xs.reverse)) h
  | _ => .bad

def intsOf : List PyData → Option (List Int)
  | [] => some []
  | .int i :: xs => (intsOf xs).map (i :: ·)
  | _ => none
def boolsOf : List PyData → Option (List Bool)
  | [] => some []
  | .bool i :: xs => (boolsOf xs).map (i :: ·)
  | _ => none
def sortI (ns : List Int) : List Int := ns.mergeSort (fun a b => decide (a ≤ b))

def insU (x : Int) : List Int → List Int
  | [] => [x]
  | y :: ys => if x < y then x :: y :: ys else if x = y then y :: ys else y :: insU x ys
/-- the members, ascending, each once -/
def sortU (ns : List Int) : List Int := ns.foldr insU []
def listInts : PyData → Option (List Int)
  | .list xs => intsOf xs
  | _ => none
def evLen (h : Hq) : W → Option Nat
  | .d (.list xs) => some xs.length
  | .d (.tuple xs) => some xs.length
  | .d (.str s) => if s.length ≤ SZ then some s.length else none
  | .l n => match h[n]? with
    | some (.lst xs) => some xs.length
    | some (.lsw xs) => some xs.length
    | _ => none
  | _ => none

/-- a list or a tuple, its items -/
def seqOf : PyData → Option (List PyData)
  | .list xs => some xs
  | .tuple xs => some xs
  | _ => none

/-- all of one kind -/
def alkAll (xs : List PyData) : Bool := xs.all fun x => notNo x && xs.all fun y => PySem.W.alike x y
def dptAll (xs : List PyData) : Bool := decide (PyData.depthAll xs ≤ 150)
def maxP (xs : List PyData) : Option PyData := match intsOf xs with
  | some ns => (maxI ns).map .int
  | none => match xs with
    | [] => none
    | x :: r => if alkAll (x :: r) && dptAll (x :: r) then some (PySem.W.maxD x r) else none
def minP (xs : List PyData) : Option PyData := match intsOf xs with
  | some ns => (minI ns).map .int
  | none => match xs with
    | [] => none
    | x :: r => if alkAll (x :: r) && dptAll (x :: r) then some (PySem.W.minD x r) else none
/-- tuples with an item at least, or none of them a tuple -/
def srtAll (xs : List PyData) : Bool := (xs.all fun x => match x with
  | .tuple (_ :: _) => true
  | _ => false) || (xs.all fun x => match x with
  | .tuple _ => false
  | .none => false
  | _ => true)
def sortD (xs : List PyData) : List PyData := xs.mergeSort (PySem.W.dataLe false id)
def sortP (xs : List PyData) : Option (List PyData) := match intsOf xs with
  | some ns => some ((sortI ns).map .int)
  | none => if alkAll xs && srtAll xs && dptAll xs then some (sortD xs) else none
def listOf : PyData → Option (List PyData)
  | .list xs => some xs
  | _ => none
/-- a text that is shown as a whole -/
def shownP (d : PyData) : Option PyData := if d.showable && (dpt d && decide (d.shown.length ≤ SZ)) then some (.str d.shown) else none
def listBools : PyData → Option (List Bool)
  | .list xs => boolsOf xs
  | _ => none
def evB (f : Bt) (ws : List W) (h : Hq) : R W := match f, ws with
  | .len, [w] => match evLen h w with
    | some n => .ok (.d (.int n)) h
    | none => .bad
  | .tuple, [w] => liftO (((toD h w).bind seqOf).map .tuple) h
  | .list, [w] => liftO (((toD h w).bind seqOf).map .list) h
  | .int, [.d (.int i)] => .ok (.d (.int i)) h
  | .int, [.d (.bool b)] => .ok (.d (.int (if b then 1 else 0))) h
  | .sum, [w] => liftO (((toD h w).bind listInts).map fun ns => .int ns.sum) h
  | .sorted, [w] => liftO ((((toD h w).bind seqOf).bind sortP).map .list) h
  | .max, [w] => liftO (((toD h w).bind seqOf).bind maxP) h
  | .min, [w] => liftO (((toD h w).bind seqOf).bind minP) h
  | .repr, [w] => liftO ((toDD h w).bind shownP) h
  | .max, [.d (.int i), .d (.int j)] => .ok (.d (.int (if j > i then j else i))) h
  | .min, [.d (.int i), .d (.int j)] => .ok (.d (.int (if j < i then j else i))) h
  | .all, [w] => liftO (((toD h w).bind listBools).map fun bs => .bool (bs.all id)) h
  | .any, [w] => liftO (((toD h w).bind listBools).map fun bs => .bool (bs.any id)) h
  | _, _ => .bad

/-- what stands ahead of the method's name is right, ahead of the arguments -/
def isLst (h : Hq) (w : W) : Bool := match toDD h w with
  | some (.list _) => true
  | _ => false
def recv (f : Mt) (h : Hq) (w : W) : Bool := match f with
  | .count => isLst h w
  | .index => isLst h w
  | .get => (dctOf h w).isSome
  | .pop => false
def evM (f : Mt) (w : W) (ws : List W) (h : Hq) : R W := match f, ws with
  | .count, [.d x] => match toD h w with
    | some (.list ys) => if dpt x then .ok (.d (.int (ys.countP fun y => PyData.eqv y x : Nat))) h else .bad
    | _ => .bad
  | .index, [.d x] => match toDD h w with
    | some (.list ys) => if dpt x then match ys.findIdx? fun y => PyData.eqv y x with
      | some j => .ok (.d (.int (j : Nat))) h
      | none => .bad
      else .bad
    | _ => .bad
  | .get, [.d k, v] => match dctOf h w with
    | some kvs => if isKey k then match dget kvs k with
      | some x => .ok (.d x) h
      | none => .ok v h
      else .bad
    | none => .bad
  | _, _ => .bad

def setAll : List Nat → List W → Vars → Vars
  | i :: is, w :: ws, env => setAll is ws (env.set i (some w))
  | _, _, env => env
/-- the targets of a loop's turn: one slot, or the slots that a tuple's items go to -/
def bindT (t : List Nat) (u : Bool) (w : W) (env : Vars) : Option Vars := match u with
  | false => match t with
    | [i] => some (env.set i (some w))
    | _ => none
  | true => match w with
    | .d (.tuple xs) => if xs.length = t.length then some (setAll t (xs.map .d) env) else none
    | .d (.list xs) => if xs.length = t.length then some (setAll t (xs.map .d) env) else none
    | _ => none

def rangeUp (lo hi : Int) : List W := (List.range (hi - lo).toNat).map fun (i : Nat) => W.d (.int (lo + i))
def rangeDn (hi lo : Int) : List W := (List.range (hi - lo).toNat).map fun (i : Nat) => W.d (.int (hi - i))
def rgOk (lo hi : Int) : Bool := decide (-(2 ^ 61) ≤ lo ∧ lo < 2 ^ 61 ∧ -(2 ^ 61) ≤ hi ∧ hi < 2 ^ 61 ∧ hi - lo ≤ 16777216)
/-- the items that are walked -/
def itemsOf (h : Hq) : W → Option (List W)
  | .d (.list xs) => some (xs.map .d)
  | .d (.tuple xs) => some (xs.map .d)
  | .d (.str s) => if s.length ≤ SZ then some (s.cps.toList.map fun c => .d (.str ⟨#[c]⟩)) else none
  | .l n => match h[n]? with
    | some (.lst xs) => some (xs.map .d)
    | some (.lsw ws) => some ws
    | _ => none
  | _ => none
/-- the place that must stay as it is while its items are walked -/
def liveW : W → Option Nat
  | .d _ => none
  | .l n => some n
open Classical in
noncomputable def kpt {α : Type} (q : Option Nat) (h : Hq) (r : R α) : R α := match q with
  | none => r
  | some n => r.bind fun a h' => if h'[n]? = h[n]? then .ok a h' else .bad

def lcGo (f : W → Hq → R (Option W)) : List W → Hq → R (List W)
  | [], h => .ok [] h
  | w :: ws, h => (f w h).bind fun o h => (lcGo f ws h).bind fun rs h => match o with
    | some r => .ok (r :: rs) h
    | none => .ok rs h
def noEx {α : Type} : R α → R α
  | .ex _ _ _ => .bad
  | r => r
def lcEnd (k : Nat) (ws : List W) (h : Hq) : R W := match k with
  | 0 => match allD ws with
    | some ds => .ok (.d (.list ds)) h
    | none => .bad
  | 1 => match allD ws with
    | some ds => .ok (.l h.length) (h ++ [.lst ds])
    | none => .bad
  | _ => .ok (.l h.length) (h ++ [.lsw ws])

def boolO : Option W → Option Bool
  | none => some true
  | some (.d (.bool k)) => some k
  | _ => none
abbrev CallF := Nat → Nat → List W → Hq → R W

/-- a written dict's answer -/
def dlook (kvs : List (Str × Int)) (s : Str) : Option Int := kvs.foldl (fun acc p => if s = p.1 then some p.2 else acc) none
mutual
noncomputable def evE (b : Nat) (C : CallF) : E → Vars → Hq → R W
  | .bad, _, _ => .bad
  | .dnew, _, h => .ok (.l h.length) (h ++ [.dct []])
  | .dnewI, _, h => .ok (.l h.length) (h ++ [.dki []])
  | .glb x, _, h => .ok (.d (.int x)) h
  | .trg t a, env, h => (evE b C a env h).bind fun w h => match w with
    | .d (.int n) => if rgOk 0 n then .ok (.d ((if t then PyData.tuple else PyData.list) ((List.range n.toNat).map fun i => .int (i : Nat)))) h else .bad
    | _ => .bad
  | .isa c a, env, h => (evE b C a env h).bind fun w h => match toD h w with
    | some x => .ok (.d (.bool (isaD c x))) h
    | none => .bad
  | .dlg kvs k d, env, h => (evE b C k env h).bind fun v h => (evE b C d env h).bind fun w h => match v with
    | .d (.str s) => .ok (match dlook kvs s with
      | some i => .d (.int i)
      | none => w) h
    | _ => .bad
  | .var i, env, h => match env[i]? with
    | some (some w) => .ok w h
    | _ => .bad
  | .lit c, _, h => .ok (.d c) h
  | .tup es, env, h => (evEs b C es env h).bind fun ws h => match allD ws with
    | some ds => .ok (.d (.tuple ds)) h
    | none => .bad
  | .lst es, env, h => (evEs b C es env h).bind fun ws h => match allD ws with
    | some ds => .ok (.d (.list ds)) h
    | none => .bad
  | .lstM es, env, h => (evEs b C es env h).bind fun ws h => match allD ws with
    | some ds => .ok (.l h.length) (h ++ [.lst ds])
    | none => .bad
  | .lsw es, env, h => (evEs b C es env h).bind fun ws h => .ok (.l h.length) (h ++ [.lsw ws])
  | .bin o x y, env, h => (evE b C x env h).bind fun v h => (evE b C y env h).bind fun w h => op2 (evBin o) v w h
  | .binM o x y, env, h => (evE b C x env h).bind fun v h => (evE b C y env h).bind fun w h => opM (evBin o) v w h
  | .neg x, env, h => (evE b C x env h).bind fun v h => match v with
    | .d (.int i) => .ok (.d (.int (-i))) h
    | _ => .bad
  | .nt x, env, h => (evE b C x env h).bind fun v h => match v with
    | .d (.bool k) => .ok (.d (.bool (!k))) h
    | _ => .bad
  | .cmp o x y, env, h => (evE b C x env h).bind fun v h => (evE b C y env h).bind fun w h => cmpW o v w h
  | .isN x, env, h => (evE b C x env h).bind fun v h => match v with
    | .d .none => .ok (.d (.bool true)) h
    | _ => .ok (.d (.bool false)) h
  | .isB n k x, env, h => (evE b C x env h).bind fun v h => match v with
    | .d (.bool j) => .ok (.d (.bool (xor n (j == k)))) h
    | _ => .bad
  | .notN x, env, h => (evE b C x env h).bind fun v h => match v with
    | .d .none => .ok (.d (.bool false)) h
    | _ => .ok (.d (.bool true)) h
  | .cmp2 o p x y z, env, h => (evE b C x env h).bind fun v h => (evE b C y env h).bind fun w h => (cmpW o v w h).bind fun k h => match k with
    | .d (.bool true) => (evE b C z env h).bind fun u h => cmpW p w u h
    | .d (.bool false) => .ok (.d (.bool false)) h
    | _ => .bad
  | .one x, env, h => evE b C x env h
  | .and x y, env, h => (evE b C x env h).bind fun v h => match v with
    | .d (.bool true) => evE b C y env h
    | .d (.bool false) => .ok (.d (.bool false)) h
    | _ => .bad
  | .or x y, env, h => (evE b C x env h).bind fun v h => match v with
    | .d (.bool true) => .ok (.d (.bool true)) h
    | .d (.bool false) => evE b C y env h
    | _ => .bad
  | .ife c x y, env, h => (evE b C c env h).bind fun v h => match v with
    | .d (.bool true) => evE b C x env h
    | .d (.bool false) => evE b C y env h
    | _ => .bad
  | .idx x i, env, h => (evE b C x env h).bind fun v h => (evE b C i env h).bind fun w h => evIdx h v w
  | .rev x, env, h => (evE b C x env h).bind fun v h => evRev h v
  | .slc x lo hi, env, h => (evE b C x env h).bind fun v h => (evOe b C lo env h).bind fun l h => match intO l with
    | some l => (evOe b C hi env h).bind fun u h => match intO u with
      | some u => evSlc h v l u
      | none => .bad
    | none => .bad
  | .blt f es, env, h => (evEs b C es env h).bind fun ws h => evB f ws h
  | .mth f o es, env, h => (evE b C o env h).bind fun w h => if recv f h w then (evEs b C es env h).bind fun ws h => evM f w ws h else .bad
  | .sset x, env, h => (evE b C x env h).bind fun v h => match (toD h v).bind listInts with
    | some ns => if ns.length < 60 then .ok (.d (.list ((sortU ns).map .int))) h else .bad
    | none => .bad
  | .call f es, env, h => (evEs b C es env h).bind fun ws h => C b f ws h
  | .call0 f, env, h => C b f [] h
  | .lc k t u it c e, env, h => (evIt b C it env h).bind fun ws h => (noEx (lcGo (fun w h => kpt ws.2 h (match bindT t u w env with
      | some env => (evOe b C c env h).bind fun q h => match boolO q with
        | some true => (evE b C e env h).bind fun r h => .ok (some r) h
        | some false => .ok none h
        | none => .bad
      | none => .bad)) ws.1 h)).bind fun rs h => lcEnd k rs h
noncomputable def evEs (b : Nat) (C : CallF) : Es → Vars → Hq → R (List W)
  | .nil, _, h => .ok [] h
  | .cons e es, env, h => (evE b C e env h).bind fun w h => (evEs b C es env h).bind fun ws h => .ok (w :: ws) h
noncomputable def evOe (b : Nat) (C : CallF) : Oe → Vars → Hq → R (Option W)
  | .none, _, h => .ok none h
  | .some e, env, h => (evE b C e env h).bind fun w h => .ok (some w) h
noncomputable def evIt (b : Nat) (C : CallF) : It → Vars → Hq → R (List W × Option Nat)
  | .e a, env, h => (evE b C a env h).bind fun w h => match itemsOf h w with
    | some ws => .ok (ws, liveW w) h
    | none => .bad
  | .rg1 a, env, h => (evE b C a env h).bind fun w h => match w with
    | .d (.int n) => if rgOk 0 n then .ok (rangeUp 0 n, none) h else .bad
    | _ => .bad
  | .rg2 a c, env, h => (evE b C a env h).bind fun w h => (evE b C c env h).bind fun v h => match w, v with
    | .d (.int n), .d (.int k) => if rgOk n k then .ok (rangeUp n k, none) h else .bad
    | _, _ => .bad
  | .rgd a c, env, h => (evE b C a env h).bind fun w h => (evE b C c env h).bind fun v h => match w, v with
    | .d (.int n), .d (.int k) => if rgOk k n then .ok (rangeDn n k, none) h else .bad
    | _, _ => .bad
end

/-! ### statements -/
inductive Fl where
  | nx (env : Vars)
  | rt (w : W)
  | bk (env : Vars)
  | ct (env : Vars)

mutual
inductive S where
  | bad
  | asg (t : List Nat) (u : Bool) (e : E)
  | set (o i e : E)
  | app (o e : E)
  | expr (e : E)
  | ret (e : E)
  | retN
  | ifs (c : E) (a b : Ss)
  | forS (t : List Nat) (u : Bool) (it : It) (b : Ss)
  | whl (n : Nat) (c : E) (b : Ss)
  | pass | brk | cnt
  | rais (c : Nat) (es : Es)
  | frz (i : Nat)
inductive Ss where
  | nil
  | cons (s : S) (ss : Ss)
end

def forGo (f : W → Vars → Hq → R Fl) : List W → Vars → Hq → R Fl
  | [], env, h => .ok (.nx env) h
  | w :: ws, env, h => (f w env h).bind fun q h => match q with
    | .nx env => forGo f ws env h
    | .ct env => forGo f ws env h
    | .bk env => .ok (.nx env) h
    | .rt v => .ok (.rt v) h
def whlGo (c : Vars → Hq → R W) (f : Vars → Hq → R Fl) : Nat → Vars → Hq → R Fl
  | 0, _, _ => .bad
  | n + 1, env, h => (c env h).bind fun v h => match v with
    | .d (.bool false) => .ok (.nx env) h
    | .d (.bool true) => (f env h).bind fun q h => match q with
      | .nx env => whlGo c f n env h
      | .ct env => whlGo c f n env h
      | .bk env => .ok (.nx env) h
      | .rt v => .ok (.rt v) h
    | _ => .bad

/-- o[i] = v -/
def evSet (b : Nat) (o i v : W) (h : Hq) : R Unit := match o, i with
  | .l n, .d (.int k) => match h[n]? with
    | some (.lst xs) => match L2.ixN xs.length k, v with
      | some j, .d x => .ok () (h.set n (.lst (xs.set j x)))
      | _, _ => .bad
    | some (.lsw ws) => match L2.ixN ws.length k with
      | some j => match v with
        | .d x => .ok () (h.set n (.lsw (ws.set j v)))
        | .l _ => if b ≤ n then .ok () (h.set n (.lsw (ws.set j v))) else .bad
      | none => .bad
    | some (.dki kvs) => match v with
      | .d x => if kvs.length < 1000000 then .ok () (h.set n (.dki (iput kvs k x))) else .bad
      | .l _ => .bad
    | _ => .bad
  | .l n, .d k => match h[n]? with
    | some (.dct kvs) => match v with
      | .d x => if isKey k && decide (kvs.length < 1000000) then .ok () (h.set n (.dct (dput kvs k x))) else .bad
      | .l _ => .bad
    | _ => .bad
  | _, _ => .bad
/-- a list that may change -/
def recvL (h : Hq) (w : W) : Bool := match w with
  | .l n => match h[n]? with
    | some (.lst _) => true
    | some (.lsw _) => true
    | _ => false
  | _ => false
/-- o.append(v) -/
def evApp (b : Nat) (o v : W) (h : Hq) : R Unit := match o with
  | .l n => match h[n]? with
    | some (.lst xs) => match v with
      | .d x => if xs.length < SZ then .ok () (h.set n (.lst (xs ++ [x]))) else .bad
      | .l _ => .bad
    | some (.lsw ws) => match v with
      | .d x => if ws.length < SZ then .ok () (h.set n (.lsw (ws ++ [v]))) else .bad
      | .l _ => if ws.length < SZ ∧ b ≤ n then .ok () (h.set n (.lsw (ws ++ [v]))) else .bad
    | _ => .bad
  | _ => .bad
/-- the list at a slot is never changed from here on -/
def evFrz (i : Nat) (env : Vars) (h : Hq) : R Fl := match env[i]? with
  | some (some (.l n)) => match h[n]? with
    | some (.lst xs) => .ok (.nx (env.set i (some (.d (.list xs))))) (h.set n .dead)
    | _ => .bad
  | _ => .bad

mutual
noncomputable def evS (b : Nat) (C : CallF) : S → Vars → Hq → R Fl
  | .bad, _, _ => .bad
  | .asg t u e, env, h => (evE b C e env h).bind fun w h => match bindT t u w env with
    | some env => .ok (.nx env) h
    | none => .bad
  | .set o i e, env, h => (evE b C e env h).bind fun v h => (evE b C o env h).bind fun w h => (evE b C i env h).bind fun k h => (evSet b w k v h).bind fun _ h => .ok (.nx env) h
  | .app o e, env, h => (evE b C o env h).bind fun w h => if recvL h w then (evE b C e env h).bind fun v h => (evApp b w v h).bind fun _ h => .ok (.nx env) h else .bad
  | .expr e, env, h => (evE b C e env h).bind fun _ h => .ok (.nx env) h
  | .ret e, env, h => (evE b C e env h).bind fun w h => .ok (.rt w) h
  | .retN, _, h => .ok (.rt (.d .none)) h
  | .ifs c x y, env, h => (evE b C c env h).bind fun v h => match v with
    | .d (.bool true) => evSs b C x env h
    | .d (.bool false) => evSs b C y env h
    | _ => .bad
  | .forS t u it s, env, h => (evIt b C it env h).bind fun ws h => forGo (fun w env h => kpt ws.2 h (match bindT t u w env with
    | some env => evSs b C s env h
    | none => .bad)) ws.1 env h
  | .whl n c s, env, h => whlGo (fun env h => evE b C c env h) (fun env h => evSs b C s env h) n env h
  | .pass, env, h => .ok (.nx env) h
  | .brk, env, h => .ok (.bk env) h
  | .cnt, env, h => .ok (.ct env) h
  | .rais c es, env, h => (evEs b C es env h).bind fun ws h => match allD ws with
    | some ds => .ex c ds h
    | none => .bad
  | .frz i, env, h => evFrz i env h
noncomputable def evSs (b : Nat) (C : CallF) : Ss → Vars → Hq → R Fl
  | .nil, env, h => .ok (.nx env) h
  | .cons s ss, env, h => (evS b C s env h).bind fun q h => match q with
    | .nx env => evSs b C ss env h
    | q => .ok q h
end

/-! ### defs -/
structure FD where
  np : Nat
  ns : Nat
  tr : Bool
  body : Ss

def fin (tr : Bool) (n : Nat) (w : W) (h : Hq) : R W := match tr with
  | false => .ok w h
  | true => match w with
    | .d x => .ok (.d x) (h.take n)
    | .l _ => .bad
noncomputable def runF (C : CallF) (fd : FD) (b : Nat) (ws : List W) (h : Hq) : R W :=
  if ws.length = fd.np then
    match evSs (if fd.tr then h.length else b) C fd.body (ws.map some ++ List.replicate (fd.ns - fd.np) none) h with
    | .ok (.nx _) h' => fin fd.tr h.length (.d .none) h'
    | .ok (.rt w) h' => fin fd.tr h.length w h'
    | .ok _ _ => .bad
    | .ex c ds h' => .ex c ds (if fd.tr then h'.take h.length else h')
    | .bad => .bad
  else .bad
noncomputable def callN (T : List FD) : Nat → CallF
  | 0, _, _, _, _ => .bad
  | n + 1, b, f, ws, h => match T[f]? with
    | some fd => runF (callN T n) fd b ws h
    | none => .bad
theorem mem_insU {x k : Int} : ∀ {l : List Int}, k ∈ insU x l ↔ k = x ∨ k ∈ l
  | [] => by simp [insU]
  | y :: ys => by
    unfold insU
    split
    · simp
    · split
      · rename_i h; subst h; simp
      · simp only [List.mem_cons, mem_insU (l := ys)]
        constructor
        · rintro (h | h | h) <;> simp [h]
        · rintro (h | h | h) <;> simp [h]
theorem mem_sortU {k : Int} : ∀ {ns : List Int}, k ∈ sortU ns ↔ k ∈ ns
  | [] => by simp [sortU]
  | n :: ns => by
    show k ∈ insU n (sortU ns) ↔ _
    rw [mem_insU, mem_sortU]
    simp
theorem asc_insU {x : Int} : ∀ {l : List Int}, l.Pairwise (· < ·) → (insU x l).Pairwise (· < ·)
  | [], _ => by simp [insU]
  | y :: ys, h => by
    rw [List.pairwise_cons] at h
    unfold insU
    split
    · rename_i hx
      refine List.pairwise_cons.mpr ⟨fun z hz => ?_, List.pairwise_cons.mpr h⟩
      rcases List.mem_cons.mp hz with e | e
      · omega
      · have := h.1 z e; omega
    · split
      · exact List.pairwise_cons.mpr h
      · refine List.pairwise_cons.mpr ⟨fun z hz => ?_, asc_insU h.2⟩
        rcases mem_insU.mp hz with e | e
        · omega
        · exact h.1 z e
theorem asc_sortU : ∀ ns : List Int, (sortU ns).Pairwise (· < ·)
  | [] => .nil
  | n :: ns => asc_insU (asc_sortU ns)
theorem asc_eq : ∀ {a b : List Int}, a.Pairwise (· < ·) → b.Pairwise (· < ·) → (∀ k, k ∈ a ↔ k ∈ b) → a = b := by
  intro a b ha hb h
  have na : a.Nodup := ha.imp fun h => by omega
  have nb : b.Nodup := hb.imp fun h => by omega
  refine List.Perm.eq_of_pairwise (le := (· ≤ ·)) (fun a b _ _ h1 h2 => Int.le_antisymm h1 h2) (ha.imp fun h => by omega) (hb.imp fun h => by omega) ((List.perm_ext_iff_of_nodup na nb).mpr h)
end Ev

/-! EvB: how a small state (h, env) stands for a heap and slots of the layer. -/
namespace Ev
open PySem PySem.Spec L2
/-- the world (its hashes) -/
class Wd where
  w : World

section
variable {K : PySem.W.Frag}

def HpLe (F F' : Hp) : Prop := ∀ a o, F a = some o → F' a = some o
theorem HpLe.refl (F : Hp) : HpLe F F := fun _ _ h => h
theorem HpLe.trans {F F1 F2 : Hp} (a : HpLe F F1) (b : HpLe F1 F2) : HpLe F F2 := fun c o h => b c o (a c o h)
theorem HpLe.upd {F : Hp} {p : Addr} {o : HO} (h : F p = none) : HpLe F (upd F p o) := fun b u e => by
  rw [upd_ne (ne_of_none e h)]; exact e
theorem HpLe.rd {F F' : Hp} {a : Addr} {u : HO} (le : HpLe F F') (r : Rd F a u) : Rd F' a u := by
  rcases r with r | ⟨o, r⟩
  · exact .inl (le _ _ r)
  · exact .inr ⟨o, le _ _ r⟩
theorem HpLe.sql {F F' : Hp} {a : Addr} {xs : List V} (le : HpLe F F') (r : SqL K F a xs) : SqL K F' a xs := r.imp (le.rd) id
theorem HpLe.sqt {F F' : Hp} {a : Addr} {xs : List V} (le : HpLe F F') (r : SqT K F a xs) : SqT K F' a xs := r.imp (le.rd) id

mutual
theorem dp_mono {F F' : Hp} (le : HpLe F F') : ∀ (d : PyData) (v : V), Dp K F v d → Dp K F' v d
  | .none, _, h => by cases h; exact .non
  | .bool b, _, h => by cases h; exact .bl b
  | .int i, _, h => by cases h; exact .int i
  | .str x, _, h => by cases h; exact .str x
  | .list ds, _, h => by
    cases h with
    | lst hs ha => exact .lst (le.sql hs) (dps_mono le ds _ ha)
  | .tuple ds, _, h => by
    cases h with
    | tup hs ha => exact .tup (le.sqt hs) (dps_mono le ds _ ha)
  | .dict _, _, h => by cases h
theorem dps_mono {F F' : Hp} (le : HpLe F F') : ∀ (ds : List PyData) (vs : List V), DpAll K F vs ds → DpAll K F' vs ds
  | [], _, h => by cases h; exact .nil
  | d :: ds, _, h => by
    cases h with
    | cons h1 h2 => exact .cons (dp_mono le d _ h1) (dps_mono le ds _ h2)
end
mutual
theorem dp_plain {F : Hp} : ∀ (d : PyData) (v : V), Dp K F v d → d.plain = true
  | .none, _, _ => rfl
  | .bool b, _, _ => rfl
  | .int i, _, _ => rfl
  | .str x, _, _ => rfl
  | .list ds, _, h => by
    cases h with
    | lst hs ha => simp only [PyData.plain]; exact dps_plain ds _ ha
  | .tuple ds, _, h => by
    cases h with
    | tup hs ha => simp only [PyData.plain]; exact dps_plain ds _ ha
  | .dict _, _, h => by cases h
theorem dps_plain {F : Hp} : ∀ (ds : List PyData) (vs : List V), DpAll K F vs ds → PyData.plainAll ds = true
  | [], _, _ => rfl
  | d :: ds, _, h => by
    cases h with
    | cons h1 h2 => simp only [PyData.plainAll, dp_plain d _ h1, dps_plain ds _ h2, Bool.and_self]
end
end
end Ev
namespace L2
open PySem PySem.Spec
section
variable {K : PySem.W.Frag}
theorem DpAll.length {F : Hp} : ∀ {ds : List PyData} {vs : List V}, DpAll K F vs ds → vs.length = ds.length
  | [], _, h => by cases h; rfl
  | d :: ds, _, h => by
    cases h with
    | cons _ h2 => simp [DpAll.length h2]
theorem DpAll.app {F : Hp} : ∀ {xs ys : List PyData} {vs us : List V}, DpAll K F vs xs → DpAll K F us ys → DpAll K F (vs ++ us) (xs ++ ys)
  | [], _, _, _, h, g => by cases h; exact g
  | _ :: _, _, _, _, h, g => by
    cases h with
    | cons h1 h2 => exact .cons h1 (DpAll.app h2 g)
theorem DpAll.get {F : Hp} : ∀ {xs : List PyData} {vs : List V} {i : Nat} {x : PyData}, DpAll K F vs xs → xs[i]? = some x → ∃ v, vs[i]? = some v ∧ Dp K F v x
  | [], _, _, _, _, e => by simp at e
  | _ :: _, _, 0, _, h, e => by
    cases h with
    | cons h1 h2 => simp at e; subst e; exact ⟨_, rfl, h1⟩
  | _ :: xs, _, i + 1, _, h, e => by
    cases h with
    | cons h1 h2 => simpa using DpAll.get (i := i) h2 (by simpa using e)
theorem DpAll.set {F : Hp} {x : PyData} {v : V} (d : Dp K F v x) : ∀ {xs : List PyData} {vs : List V} (i : Nat), DpAll K F vs xs → DpAll K F (vs.set i v) (xs.set i x)
  | [], _, _, h => by cases h; exact .nil
  | _ :: _, _, 0, h => by
    cases h with
    | cons h1 h2 => exact .cons d h2
  | _ :: _, _, i + 1, h => by
    cases h with
    | cons h1 h2 => exact .cons h1 (DpAll.set d i h2)
theorem DpAll.take {F : Hp} : ∀ {xs : List PyData} {vs : List V} (n : Nat), DpAll K F vs xs → DpAll K F (vs.take n) (xs.take n)
  | _, _, 0, _ => by simp; exact .nil
  | [], _, _ + 1, h => by cases h; exact .nil
  | _ :: _, _, n + 1, h => by
    cases h with
    | cons h1 h2 => exact .cons h1 (DpAll.take n h2)
theorem DpAll.drop {F : Hp} : ∀ {xs : List PyData} {vs : List V} (n : Nat), DpAll K F vs xs → DpAll K F (vs.drop n) (xs.drop n)
  | _, _, 0, h => h
  | [], _, _ + 1, h => by cases h; exact .nil
  | _ :: _, _, n + 1, h => by
    cases h with
    | cons h1 h2 => exact DpAll.drop n h2
theorem DpAll.rep {F : Hp} {xs : List PyData} {vs : List V} (h : DpAll K F vs xs) : ∀ k : Nat, DpAll K F (List.replicate k vs).flatten (List.replicate k xs).flatten
  | 0 => .nil
  | k + 1 => by
    simp only [List.replicate_succ, List.flatten_cons]
    exact h.app (DpAll.rep h k)

end
end L2
namespace Ev
open PySem PySem.Spec L2
/-- a dict's table -/
def RawD (w : World) (h : Heap) (a : Addr) (es : List (NestedKey × Addr × Value)) : Prop := ∃ o es' ep, h.get? a = some o ∧ o.ExactDict ∧ o.data = .dict es' ep ∧ es'.toList = es.map fun x => (⟨x.1.hash w, .ref x.2.1, x.2.2⟩ : DictEntry)
section
variable [Wd]
def dctO (a : Addr) (es : List (NestedKey × Addr × Value)) : HO := .ext fun h => RawD Wd.w h a es
end
/-- a dict's keys and values, as data -/
inductive DK (K : PySem.W.Frag) (F : Hp) : List (PyData × PyData) → List (NestedKey × Addr × Value) → Prop
  | nil : DK K F [] []
  | cons {d x : PyData} {r : List (PyData × PyData)} {k : NestedKey} {a : Addr} {u : Value} {v : V} {s : List (NestedKey × Addr × Value)} : nkey d = some k → Dp K F (.ref a) d → d.depth ≤ 8 → RelV v u → Dp K F v x → DK K F r s → DK K F ((d, x) :: r) ((k, a, u) :: s)
/-- the same of a dict whose keys are ints -/
inductive DI (K : PySem.W.Frag) (F : Hp) : List (Int × PyData) → List (L2.Key × V) → Prop
  | nil : DI K F [] []
  | cons {i : Int} {x : PyData} {r : List (Int × PyData)} {v : V} {s : List (L2.Key × V)} : Dp K F v x → DI K F r s → DI K F ((i, x) :: r) ((.inl i, v) :: s)
theorem DI.mono {K : PySem.W.Frag} {F F' : Hp} (le : HpLe F F') {r : List (Int × PyData)} {s : List (L2.Key × V)} (h : DI K F r s) : DI K F' r s := by
  induction h with
  | nil => exact .nil
  | cons h1 _ ih => exact .cons (dp_mono le _ _ h1) ih
theorem DI.length {K : PySem.W.Frag} {F : Hp} {r : List (Int × PyData)} {s : List (L2.Key × V)} (h : DI K F r s) : s.length = r.length := by
  induction h with
  | nil => rfl
  | cons _ _ ih => simp [ih]
theorem DI.get {K : PySem.W.Frag} {F : Hp} {r : List (Int × PyData)} {s : List (L2.Key × V)} (h : DI K F r s) (k : Int) :
    match iget r k with
    | some x => ∃ v, valV s (.inl k) = some v ∧ Dp K F v x
    | none => valV s (.inl k) = none := by
  induction h with
  | nil => simp [iget, valV]
  | cons h1 h2 ih =>
    rename_i i x r v s
    by_cases e : i = k
    · subst e
      simp only [iget, List.find?_cons, decide_true, Option.map_some]
      exact ⟨v, valV_pos rfl, h1⟩
    · have e' : ¬ (Sum.inl i : L2.Key) = .inl k := fun z => e (Sum.inl.inj z)
      simp only [iget, List.find?_cons, e, decide_false] at ih ⊢
      rw [valV_neg e']
      exact ih
theorem DI.repl {K : PySem.W.Frag} {F : Hp} {r : List (Int × PyData)} {s : List (L2.Key × V)} (h : DI K F r s) (k : Int) {v : V} {x : PyData} (hv : Dp K F v x) :
    DI K F (r.map fun p => if p.1 = k then (p.1, x) else p) (s.map fun kv => if kv.1 = .inl k then (kv.1, v) else kv) := by
  induction h with
  | nil => exact .nil
  | cons h1 h2 ih =>
    rename_i i y r u s
    by_cases e : i = k
    · subst e
      simp only [List.map_cons, if_true]
      exact .cons hv ih
    · have e' : ¬ (Sum.inl i : L2.Key) = .inl k := fun z => e (Sum.inl.inj z)
      simp only [List.map_cons, if_neg e, if_neg e']
      exact .cons h1 ih
theorem DI.snoc {K : PySem.W.Frag} {F : Hp} {r : List (Int × PyData)} {s : List (L2.Key × V)} (h : DI K F r s) (k : Int) {v : V} {x : PyData} (hv : Dp K F v x) : DI K F (r ++ [(k, x)]) (s ++ [(.inl k, v)]) := by
  induction h with
  | nil => exact .cons hv .nil
  | cons h1 _ ih => exact .cons h1 ih
theorem DI.put {K : PySem.W.Frag} {F : Hp} {r : List (Int × PyData)} {s : List (L2.Key × V)} (h : DI K F r s) (k : Int) {v : V} {x : PyData} (hv : Dp K F v x) : DI K F (iput r k x) (putK s (.inl k) v) := by
  have g := h.get k
  unfold iput putK
  rw [valV_any]
  cases e : iget r k with
  | some y =>
    rw [e] at g
    obtain ⟨u, e1, _⟩ := g
    rw [e1]
    exact h.repl k hv
  | none =>
    rw [e] at g
    rw [g]
    exact h.snoc k hv
theorem DK.mono {K : PySem.W.Frag} {F F' : Hp} (le : HpLe F F') {r : List (PyData × PyData)} {s : List (NestedKey × Addr × Value)} (h : DK K F r s) : DK K F' r s := by
  induction h with
  | nil => exact .nil
  | cons h1 h2 h3 h4 h5 _ ih => exact .cons h1 (dp_mono le _ _ h2) h3 h4 (dp_mono le _ _ h5) ih
theorem DK.length {K : PySem.W.Frag} {F : Hp} {r : List (PyData × PyData)} {s : List (NestedKey × Addr × Value)} (h : DK K F r s) : s.length = r.length := by
  induction h with
  | nil => rfl
  | cons _ _ _ _ _ _ ih => simp [ih]
section
variable {K : PySem.W.Frag} [Wd]
/-! ### values and objects -/
def WR (K : PySem.W.Frag) (m : List Addr) (F : Hp) (v : V) : W → Prop
  | .d x => Dp K F v x
  | .l n => ∃ a, m[n]? = some a ∧ v = .ref a
inductive WRs (K : PySem.W.Frag) (m : List Addr) (F : Hp) : List V → List W → Prop
  | nil : WRs K m F [] []
  | cons {v : V} {vs : List V} {w : W} {ws : List W} : WR K m F v w → WRs K m F vs ws → WRs K m F (v :: vs) (w :: ws)
theorem WRs.length {m : List Addr} {F : Hp} : ∀ {ws : List W} {vs : List V}, WRs K m F vs ws → vs.length = ws.length
  | [], _, h => by cases h; rfl
  | _ :: _, _, h => by
    cases h with
    | cons _ h2 => simp [WRs.length h2]
theorem WRs.app {m : List Addr} {F : Hp} : ∀ {xs ys : List W} {vs us : List V}, WRs K m F vs xs → WRs K m F us ys → WRs K m F (vs ++ us) (xs ++ ys)
  | [], _, _, _, h, g => by cases h; exact g
  | _ :: _, _, _, _, h, g => by
    cases h with
    | cons h1 h2 => exact .cons h1 (WRs.app h2 g)
theorem WRs.get {m : List Addr} {F : Hp} : ∀ {xs : List W} {vs : List V} {i : Nat} {x : W}, WRs K m F vs xs → xs[i]? = some x → ∃ v, vs[i]? = some v ∧ WR K m F v x
  | [], _, _, _, _, e => by simp at e
  | _ :: _, _, 0, _, h, e => by
    cases h with
    | cons h1 h2 => simp at e; subst e; exact ⟨_, rfl, h1⟩
  | _ :: xs, _, i + 1, _, h, e => by
    cases h with
    | cons h1 h2 => simpa using WRs.get (i := i) h2 (by simpa using e)
theorem WRs.set {m : List Addr} {F : Hp} {x : W} {v : V} (d : WR K m F v x) : ∀ {xs : List W} {vs : List V} (i : Nat), WRs K m F vs xs → WRs K m F (vs.set i v) (xs.set i x)
  | [], _, _, h => by cases h; exact .nil
  | _ :: _, _, 0, h => by
    cases h with
    | cons h1 h2 => exact .cons d h2
  | _ :: _, _, i + 1, h => by
    cases h with
    | cons h1 h2 => exact .cons h1 (WRs.set d i h2)
theorem WRs.ofD {m : List Addr} {F : Hp} : ∀ {xs : List PyData} {vs : List V}, DpAll K F vs xs → WRs K m F vs (xs.map .d)
  | [], _, h => by cases h; exact .nil
  | _ :: _, _, h => by
    cases h with
    | cons h1 h2 => exact .cons h1 (WRs.ofD h2)
theorem WRs.toD {m : List Addr} {F : Hp} : ∀ {ws : List W} {vs : List V} {xs : List PyData}, WRs K m F vs ws → allD ws = some xs → DpAll K F vs xs
  | [], _, _, h, e => by cases h; simp [allD] at e; subst e; exact .nil
  | .d x :: ws, _, _, h, e => by
    cases h with
    | cons h1 h2 =>
      simp only [allD, Option.map_eq_some_iff] at e
      obtain ⟨ys, e, rfl⟩ := e
      exact .cons h1 (WRs.toD h2 e)
  | .l _ :: _, _, _, _, e => by simp [allD] at e

structure MLe (m m' : List Addr) : Prop where
  pre : ∃ t, m' = m ++ t
theorem MLe.refl (m : List Addr) : MLe m m := ⟨[], by simp⟩
theorem MLe.trans {a b c : List Addr} (h : MLe a b) (g : MLe b c) : MLe a c := by
  obtain ⟨t, rfl⟩ := h.pre
  obtain ⟨u, rfl⟩ := g.pre
  exact ⟨t ++ u, by simp⟩
theorem MLe.get {m m' : List Addr} (h : MLe m m') {n : Nat} {a : Addr} (e : m[n]? = some a) : m'[n]? = some a := by
  obtain ⟨t, rfl⟩ := h.pre
  rw [List.getElem?_append_left (List.getElem?_eq_some_iff.mp e).1]; exact e
theorem MLe.mem {m m' : List Addr} (h : MLe m m') {a : Addr} (e : a ∈ m) : a ∈ m' := by
  obtain ⟨t, rfl⟩ := h.pre
  exact List.mem_append_left _ e
theorem wr_mono {m m' : List Addr} {F F' : Hp} {v : V} (l : MLe m m') (le : HpLe F F') : ∀ {w : W}, WR K m F v w → WR K m' F' v w
  | .d x, h => dp_mono le x v h
  | .l n, ⟨a, e, q⟩ => ⟨a, l.get e, q⟩
theorem wrs_mono {m m' : List Addr} {F F' : Hp} (l : MLe m m') (le : HpLe F F') : ∀ {ws : List W} {vs : List V}, WRs K m F vs ws → WRs K m' F' vs ws
  | [], _, h => by cases h; exact .nil
  | _ :: _, _, h => by
    cases h with
    | cons h1 h2 => exact .cons (wr_mono l le h1) (wrs_mono l le h2)

def refsW : W → List Nat
  | .d _ => []
  | .l n => [n]
def refs : Ob → List Nat
  | .lsw ws => ws.flatMap refsW
  | _ => []
def OR (K : PySem.W.Frag) (m : List Addr) (F H : Hp) (a : Addr) : Ob → Prop
  | .lst xs => F a = none ∧ ∃ vs, H a = some (.lst vs) ∧ DpAll K F vs xs
  | .lsw ws => F a = none ∧ ∃ vs, H a = some (.lst vs) ∧ WRs K m F vs ws
  | .dct kvs => F a = none ∧ ∃ es, H a = some (dctO a es) ∧ DK K F kvs es ∧ (es.map (·.1)).Nodup ∧ (a == sysModules) = false ∧ kvs.length ≤ 1000000
  | .dki kvs => F a = none ∧ ∃ vs, H a = some (.dK vs) ∧ DI K F kvs vs ∧ kvs.length ≤ 1000000
  | .dead => True

structure HR (K : PySem.W.Frag) (B : List Nat) (m : List Addr) (F : Hp) (h : Hq) (H : Hp) : Prop where
  len : m.length = h.length
  nd : m.Nodup
  ob : ∀ (n : Nat) (o : Ob) (a : Addr), h[n]? = some o → m[n]? = some a → OR K m F H a o
  sub : HpLe F H
  there : ∀ a ∈ m, H a ≠ none
  clo : ∀ c ∈ B, c ≤ h.length ∧ ∀ (n : Nat) (o : Ob) (k : Nat), n < c → h[n]? = some o → k ∈ refs o → k < c
structure SR (K : PySem.W.Frag) (B : List Nat) (m : List Addr) (F : Hp) (env : Vars) (h : Hq) (σ : St) (H : Hp) : Prop where
  hr : HR K B m F h H
  el : env.length ≤ σ.length
  var : ∀ (i : Nat) (w : W), env[i]? = some (some w) → ∃ v, σ[i]? = some (some v) ∧ WR K m F v w
/-- behind something: what was told stays -/
structure Ext (m : List Addr) (F H : Hp) (m' : List Addr) (F' H' : Hp) : Prop where
  ml : MLe m m'
  sub : HpLe F F'
  frm : ∀ a o, H a = some o → a ∉ m → H' a = some o
  new : ∀ a, a ∈ m' → a ∉ m → H a = none
  frf : ∀ a, a ∉ m → F a = none → H a ≠ none → F' a = none
theorem Ext.refl (m : List Addr) (F H : Hp) : Ext m F H m F H := ⟨.refl _, .refl _, fun _ _ h _ => h, fun _ h g => absurd h g, fun _ _ h _ => h⟩
theorem Ext.trans {m m1 m2 : List Addr} {F F1 F2 H H1 H2 : Hp} (a : Ext m F H m1 F1 H1) (b : Ext m1 F1 H1 m2 F2 H2) : Ext m F H m2 F2 H2 := by
  have nm : ∀ x o, H x = some o → x ∉ m → x ∉ m1 := fun x o e hx hm => by
    have := a.new x hm hx
    rw [e] at this; cases this
  refine ⟨a.ml.trans b.ml, a.sub.trans b.sub, fun x o e hx => b.frm x o (a.frm x o e hx) (nm x o e hx), fun x hx hm => ?_, fun x hx hf hh => ?_⟩
  · by_cases h1 : x ∈ m1
    · exact a.new x h1 hm
    · have := b.new x hx h1
      cases q : H x with
      | none => rfl
      | some o => rw [a.frm x o q hm] at this; cases this
  · obtain ⟨o, e⟩ := Option.ne_none_iff_exists'.mp hh
    exact b.frf x (nm x o e hx) (a.frf x hx hf hh) (by rw [a.frm x o e hx]; simp)

section
variable {B : List Nat} {m : List Addr} {F H : Hp} {env : Vars} {h : Hq} {σ : St} {p a : Addr} {n : Nat}
theorem HR.freeF (r : HR K B m F h H) (hp : H p = none) : F p = none := by
  cases q : F p with
  | none => rfl
  | some o => have := r.sub _ _ q; rw [hp] at this; cases this
theorem HR.freeM (r : HR K B m F h H) (hp : H p = none) : p ∉ m := fun hm => r.there p hm hp
theorem HR.at (r : HR K B m F h H) {o : Ob} (e : h[n]? = some o) : ∃ a, m[n]? = some a ∧ OR K m F H a o := by
  have hn : n < m.length := by rw [r.len]; exact (List.getElem?_eq_some_iff.mp e).1
  exact ⟨m[n], by simp [hn], r.ob n o _ e (by simp [hn])⟩
theorem or_mono {m' : List Addr} {F' H' : Hp} {o : Ob} (l : MLe m m') (le : HpLe F F') (hF : F a = none → F' a = none) (hH : ∀ u, H a = some u → F a = none → H' a = some u) (q : OR K m F H a o) : OR K m' F' H' a o := by
  cases o with
  | lst xs =>
    obtain ⟨f, vs, e, d⟩ := q
    exact ⟨hF f, vs, hH _ e f, dps_mono le _ _ d⟩
  | lsw ws =>
    obtain ⟨f, vs, e, d⟩ := q
    exact ⟨hF f, vs, hH _ e f, wrs_mono l le d⟩
  | dct _ =>
    obtain ⟨f, es, e, d, r⟩ := q
    exact ⟨hF f, es, hH _ e f, d.mono le, r⟩
  | dki _ =>
    obtain ⟨f, es, e, d, r⟩ := q
    exact ⟨hF f, es, hH _ e f, d.mono le, r⟩
  | dead => trivial
/-- a new thing that never changes -/
theorem HR.newF (r : HR K B m F h H) {u : HO} (hp : H p = none) : HR K B m (upd F p u) h (upd H p u) ∧ Ext m F H m (upd F p u) (upd H p u) := by
  have fp := r.freeF hp
  have mp := r.freeM hp
  have le : HpLe F (upd F p u) := .upd fp
  refine ⟨⟨r.len, r.nd, fun n o a e ea => ?_, fun b o e => ?_, fun b hb => ?_, r.clo⟩, ⟨.refl _, le, fun b o e _ => by rw [upd_ne (ne_of_none e hp)]; exact e, fun _ x y => absurd x y, fun b hb hf hh => ?_⟩⟩
  · have hap : a ≠ p := fun z => mp (z ▸ List.mem_of_getElem? ea)
    exact or_mono (.refl _) le (fun f => by rw [upd_ne hap]; exact f) (fun u e _ => by rw [upd_ne hap]; exact e) (r.ob n o a e ea)
  · by_cases hb : b = p
    · subst hb; rw [upd_same] at e ⊢; exact e
    · rw [upd_ne hb] at e ⊢; exact r.sub b o e
  · rw [upd_ne (show b ≠ p from fun z => mp (z ▸ hb))]; exact r.there b hb
  · have hbp : b ≠ p := fun z => hh (z ▸ hp)
    rw [upd_ne hbp]; exact hf
theorem getElem?_snoc {α : Type} {l : List α} {x y : α} {i : Nat} (e : (l ++ [x])[i]? = some y) : (i < l.length ∧ l[i]? = some y) ∨ (i = l.length ∧ y = x) := by
  rcases Nat.lt_trichotomy i l.length with h | h | h
  · rw [List.getElem?_append_left h] at e; exact .inl ⟨h, e⟩
  · subst h; simp at e; exact .inr ⟨rfl, e.symm⟩
  · rw [List.getElem?_append_right (by omega)] at e
    have : i - l.length ≠ 0 := by omega
    obtain ⟨k, hk⟩ := Nat.exists_eq_succ_of_ne_zero this
    rw [hk] at e; simp at e
/-- a new object that may change; u: what stands at p -/
theorem HR.newL (r : HR K B m F h H) {u : HO} {o : Ob} (hp : H p = none) (ho : OR K (m ++ [p]) F (upd H p u) p o) (hc : ∀ c ∈ B, c ≤ h.length → True) : HR K B (m ++ [p]) F (h ++ [o]) (upd H p u) ∧ Ext m F H (m ++ [p]) F (upd H p u) := by
  have fp := r.freeF hp
  have mp := r.freeM hp
  have ml : MLe m (m ++ [p]) := ⟨[p], rfl⟩
  refine ⟨⟨by simp [r.len], ?_, fun n q a e ea => ?_, fun b q e => ?_, fun b hb => ?_, fun c hc => ?_⟩, ⟨ml, .refl _, fun b q e _ => by rw [upd_ne (ne_of_none e hp)]; exact e, fun b x y => ?_, fun _ _ hf _ => hf⟩⟩
  · rw [List.nodup_append]
    refine ⟨r.nd, by simp, fun a ha b hb => ?_⟩
    have : b = p := by simpa using hb
    subst this
    exact fun z => mp (z ▸ ha)
  · rcases getElem?_snoc e with ⟨hn, e⟩ | ⟨hn, rfl⟩
    · rw [List.getElem?_append_left (by rw [r.len]; exact hn)] at ea
      have hap : a ≠ p := fun z => mp (z ▸ List.mem_of_getElem? ea)
      exact or_mono ml (.refl _) id (fun u e _ => by rw [upd_ne hap]; exact e) (r.ob n q a e ea)
    · rw [hn, ← r.len] at ea
      simp at ea
      subst ea; exact ho
  · rw [upd_ne (fun z => by subst z; rw [fp] at e; cases e)]; exact r.sub b q e
  · rcases List.mem_append.mp hb with hb | hb
    · rw [upd_ne (show b ≠ p from fun z => mp (z ▸ hb))]; exact r.there b hb
    · have : b = p := by simpa using hb
      subst this; rw [upd_same]; simp
  · obtain ⟨h1, h2⟩ := r.clo c hc
    refine ⟨by simp; omega, fun n q k hn e hk => ?_⟩
    rw [List.getElem?_append_left (by omega)] at e
    exact h2 n q k hn e hk
  · rcases List.mem_append.mp x with x | x
    · exact absurd x y
    · have : b = p := by simpa using x
      subst this; exact hp
theorem nd_ne {l : List Addr} (hN : l.Nodup) {i j : Nat} {x y : Addr} (a : l[i]? = some x) (b : l[j]? = some y) (ne : i ≠ j) : x ≠ y := fun z => by
  subst z
  obtain ⟨h1, e1⟩ := List.getElem?_eq_some_iff.mp a
  obtain ⟨h2, e2⟩ := List.getElem?_eq_some_iff.mp b
  exact ne ((List.getElem_inj hN).mp (e1.trans e2.symm))
/-- an object changes -/
theorem HR.put (r : HR K B m F h H) {u : HO} {o : Ob} (hm : m[n]? = some a) (fa : F a = none) (ho : OR K m F (upd H a u) a o) (hc : ∀ c ∈ B, n < c → ∀ k ∈ refs o, k < c) :
    HR K B m F (h.set n o) (upd H a u) ∧ Ext m F H m F (upd H a u) := by
  have am : a ∈ m := List.mem_of_getElem? hm
  refine ⟨⟨by simp [r.len], r.nd, fun k q b e eb => ?_, fun b q e => ?_, fun b hb => ?_, fun c hB => ?_⟩, ⟨.refl _, .refl _, fun b q e hb => ?_, fun _ x y => absurd x y, fun _ _ hf _ => hf⟩⟩
  · by_cases hk : k = n
    · subst hk
      have hl : k < h.length := by rw [← r.len]; exact (List.getElem?_eq_some_iff.mp hm).1
      rw [List.getElem?_set_self hl] at e
      rw [hm] at eb
      cases e; cases eb; exact ho
    · rw [List.getElem?_set_ne (Ne.symm hk)] at e
      have hab : b ≠ a := nd_ne r.nd eb hm hk
      exact or_mono (.refl _) (.refl _) id (fun u e _ => by rw [upd_ne hab]; exact e) (r.ob k q b e eb)
  · rw [upd_ne (fun z => by subst z; rw [fa] at e; cases e)]; exact r.sub b q e
  · by_cases hb' : b = a
    · subst hb'; rw [upd_same]; simp
    · rw [upd_ne hb']; exact r.there b hb
  · obtain ⟨h1, h2⟩ := r.clo c hB
    refine ⟨by simpa using h1, fun k q j hk e hj => ?_⟩
    by_cases hkn : k = n
    · subst hkn
      have hl : k < h.length := by omega
      rw [List.getElem?_set_self hl] at e
      cases e
      exact hc c hB hk j hj
    · rw [List.getElem?_set_ne (Ne.symm hkn)] at e
      exact h2 k q j hk e hj
  · rw [upd_ne (show b ≠ a from fun z => hb (z ▸ am))]; exact e
/-- a list is never changed from here on -/
theorem HR.frz (r : HR K B m F h H) {vs : List V} (hm : m[n]? = some a) (fa : F a = none) (e : H a = some (.lst vs)) :
    HR K B m (upd F a (.lst vs)) (h.set n .dead) H ∧ Ext m F H m (upd F a (.lst vs)) H := by
  have am : a ∈ m := List.mem_of_getElem? hm
  have le : HpLe F (upd F a (.lst vs)) := .upd fa
  refine ⟨⟨by simp [r.len], r.nd, fun k q b eq eb => ?_, fun b q eq => ?_, r.there, fun c hB => ?_⟩, ⟨.refl _, le, fun b q e _ => e, fun _ x y => absurd x y, fun b hb hf _ => ?_⟩⟩
  · by_cases hk : k = n
    · subst hk
      have hl : k < h.length := by rw [← r.len]; exact (List.getElem?_eq_some_iff.mp hm).1
      rw [List.getElem?_set_self hl] at eq
      cases eq; trivial
    · rw [List.getElem?_set_ne (Ne.symm hk)] at eq
      have hab : b ≠ a := nd_ne r.nd eb hm hk
      exact or_mono (.refl _) le (fun f => by rw [upd_ne hab]; exact f) (fun u e _ => e) (r.ob k q b eq eb)
  · by_cases hb : b = a
    · subst hb; rw [upd_same] at eq; cases eq; exact e
    · rw [upd_ne hb] at eq; exact r.sub b q eq
  · obtain ⟨h1, h2⟩ := r.clo c hB
    refine ⟨by simpa using h1, fun k q j hk eq hj => ?_⟩
    by_cases hkn : k = n
    · subst hkn
      have hl : k < h.length := by omega
      rw [List.getElem?_set_self hl] at eq
      cases eq
      simp [refs] at hj
    · rw [List.getElem?_set_ne (Ne.symm hkn)] at eq
      exact h2 k q j hk eq hj
  · rw [upd_ne (show b ≠ a from fun z => hb (z ▸ am))]; exact hf
/-- an unseen change: something else that is tracked -/
theorem HR.other (r : HR K B m F h H) {u : HO} (fp : F p = none) (mp : p ∉ m) : HR K B m F h (upd H p u) := by
  refine ⟨r.len, r.nd, fun n o a e ea => ?_, fun b o e => ?_, fun b hb => ?_, r.clo⟩
  · have hap : a ≠ p := fun z => mp (z ▸ List.mem_of_getElem? ea)
    exact or_mono (.refl _) (.refl _) id (fun u e _ => by rw [upd_ne hap]; exact e) (r.ob n o a e ea)
  · rw [upd_ne (fun z => by subst z; rw [fp] at e; cases e)]; exact r.sub b o e
  · rw [upd_ne (show b ≠ p from fun z => mp (z ▸ hb))]; exact r.there b hb
theorem take_app {α : Type} {m t : List α} {k : Nat} (hk : k ≤ m.length) : (m ++ t).take k = m.take k := by
  rw [List.take_append_of_le_length hk]
/-- behind a call: what it made is forgotten -/
theorem HR.cut {c : Nat} {m' : List Addr} {F' H' : Hp} {h' : Hq} (r : HR K (c :: B) m' F' h' H') (ml : MLe m m') (hc : c = m.length) (hB : ∀ d ∈ B, d ≤ c) : HR K B m F' (h'.take c) H' := by
  obtain ⟨t, rfl⟩ := ml.pre
  obtain ⟨c1, c2⟩ := r.clo c List.mem_cons_self
  have hl : (h'.take c).length = c := by rw [List.length_take]; omega
  refine ⟨by rw [hl, hc], (List.nodup_append.mp r.nd).1, fun n o a e ea => ?_, r.sub, fun a ha => r.there a (List.mem_append_left _ ha), fun d hd => ?_⟩
  · have hn : n < c := by rw [← hl]; exact (List.getElem?_eq_some_iff.mp e).1
    rw [List.getElem?_take_of_lt hn] at e
    have q := r.ob n o a e (by rw [List.getElem?_append_left (by omega)]; exact ea)
    cases o with
    | lst xs => exact q
    | lsw ws =>
      obtain ⟨f, vs, eH, d⟩ := q
      refine ⟨f, vs, eH, ?_⟩
      have hk : ∀ k ∈ refs (.lsw ws), k < c := fun k hk => c2 n _ k hn e hk
      clear e eH
      induction d with
      | nil => exact .nil
      | cons d1 d2 ih =>
        rename_i w ws'
        refine .cons ?_ (ih fun k hk' => hk k (by simp only [refs, List.flatMap_cons, List.mem_append]; exact .inr hk'))
        cases w with
        | d x => exact d1
        | l j =>
          obtain ⟨b, eb, rfl⟩ := d1
          have hj : j < c := hk j (by simp [refs, refsW])
          rw [List.getElem?_append_left (by omega)] at eb
          exact ⟨b, eb, rfl⟩
    | dct _ => exact q
    | dki _ => exact q
    | dead => trivial
  · obtain ⟨h1, h2⟩ := r.clo d (List.mem_cons_of_mem _ hd)
    have hdc := hB d hd
    refine ⟨by rw [hl]; exact hdc, fun n o k hn e hk => ?_⟩
    rw [List.getElem?_take_of_lt (by omega)] at e
    exact h2 n o k hn e hk
end
end
end Ev

/-! EvCm: a list or a tuple, so many times. -/
namespace L2
open PySem PySem.Spec PyProof.Rows
theorem lmulG (l : Addr) (its : Array Value) (n : Nat) (dd : Option Addr) (sl : Array (Option Value)) (k : Int) (t : Tok) (h0 : ¬(!Builtin.List.listFitsIndex k) = true) (h1 : ¬its.size * k.toNat > (2 ^ 63 - 1) / 8) (h2 : ¬Builtin.List.listTooLong (its.size * k.toNat) = true)
    (size : (List.foldl (fun a b => a ++ b) #[] (List.replicate (if its.isEmpty = true then 0 else k.toNat) its)).size ≤ sizeLine) :
    Meets (Builtin.«list.__mul__» ⟨[.ref l, .int k t], []⟩) (fun _ R z => z.heap.get? l = some { cls := .type "list", dict := dd, data := .seq its n, slots := sl } ∧
      R (.ok (.ret (Value.ref z.heap.objs.size))) { z with heap := z.heap.push { cls := Value.type "list", data := Data.seq (List.foldl (fun a b => a ++ b) #[] (List.replicate (if its.isEmpty = true then 0 else k.toNat) its)) }, toks := z.toks }) :=
  .of_wp fun prog w A R z hz => by
    obtain ⟨hp, gg, dg, tk, os⟩ := z
    obtain ⟨hg, hz⟩ := hz
    wp_walk using wpAny_loadPart' hg
    repeat (first
      | (refine wpAny_ite_false (decide_eq_false h0) ?_; wp_walk using wpAny_loadPart' hg)
      | (refine wpAny_ite_false (decide_eq_false h1) ?_; wp_walk using wpAny_loadPart' hg)
      | (refine wpAny_ite_false (decide_eq_false h2) ?_; wp_walk using wpAny_loadPart' hg)
      | (refine wpAny_ite_false (decide_eq_false (Nat.not_lt.mpr size)) ?_; wp_walk using wpAny_loadPart' hg))
    exact ⟨_, rfl, hz⟩
theorem irmulG (k : Int) (t : Tok) (l : Addr) (its : Array Value) (n : Nat) (dd : Option Addr) (sl : Array (Option Value)) :
    Meets (Builtin.«int.__rmul__» ⟨[.int k t, .ref l], []⟩) (fun _ R z => z.heap.get? l = some { cls := .type "list", dict := dd, data := .seq its n, slots := sl } ∧ R (.ok (.ret Value.notImplemented)) z) :=
  .of_wp fun prog w A R z hz => by
    obtain ⟨hp, gg, dg, tk, os⟩ := z
    obtain ⟨hg, hz⟩ := hz
    wp_walk using wpAny_loadPart' hg
    exact ⟨_, rfl, hz⟩
/-- a tuple once, or an empty one: itself -/
theorem tmulG1 (l : Addr) (its : Array Value) (n : Nat) (dd : Option Addr) (sl : Array (Option Value)) (k : Int) (t : Tok) (c0 : (decide (k < -(2 ^ 63)) || decide (k ≥ 2 ^ 63)) = false) (c1 : (its.isEmpty || k == 1) = true) :
    Meets (Builtin.«tuple.__mul__» ⟨[.ref l, .int k t], []⟩) (fun _ R z => z.heap.get? l = some { cls := .type "tuple", dict := dd, data := .seq its n, slots := sl } ∧ R (.ok (.ret (Value.ref l))) z) :=
  .of_wp fun prog w A R z hz => by
    obtain ⟨hp, gg, dg, tk, os⟩ := z
    obtain ⟨hg, hz⟩ := hz
    wp_walk using wpAny_loadPart' hg
    repeat (first
      | (refine wpAny_ite_false (decide_eq_false (by rw [c0]; exact Bool.false_ne_true)) ?_; wp_walk using wpAny_loadPart' hg)
      | (refine wpAny_ite_true (decide_eq_true c1) ?_; wp_walk using wpAny_loadPart' hg))
    exact ⟨_, rfl, hz⟩
/-- a tuple not once: the empty one -/
theorem tmulG0 (l : Addr) (its : Array Value) (n : Nat) (dd : Option Addr) (sl : Array (Option Value)) (k : Int) (t : Tok) (c0 : (decide (k < -(2 ^ 63)) || decide (k ≥ 2 ^ 63)) = false) (c1 : (its.isEmpty || k == 1) = false) (c2 : (decide (k ≤ 0) || its.isEmpty) = true) :
    Meets (Builtin.«tuple.__mul__» ⟨[.ref l, .int k t], []⟩) (fun _ R z => z.heap.get? l = some { cls := .type "tuple", dict := dd, data := .seq its n, slots := sl } ∧ R (.ok (.ret (Value.ref z.heap.objs.size))) { z with heap := z.heap.push { cls := Value.type "tuple", data := Data.seq #[] }, toks := z.toks }) :=
  .of_wp fun prog w A R z hz => by
    obtain ⟨hp, gg, dg, tk, os⟩ := z
    obtain ⟨hg, hz⟩ := hz
    wp_walk using wpAny_loadPart' hg
    repeat (first
      | (refine wpAny_ite_false (decide_eq_false (by rw [c0]; exact Bool.false_ne_true)) ?_; wp_walk using wpAny_loadPart' hg)
      | (refine wpAny_ite_false (decide_eq_false (by rw [c1]; exact Bool.false_ne_true)) ?_; wp_walk using wpAny_loadPart' hg)
      | (refine wpAny_ite_true (decide_eq_true c2) ?_; wp_walk using wpAny_loadPart' hg))
    exact ⟨_, rfl, hz⟩
section
variable {X : Cx}
theorem fold_flat (its : List Value) (m : Nat) : (List.foldl (fun a b => a ++ b) #[] (List.replicate m its.toArray)) = (List.replicate m its).flatten.toArray := by
  have q := foldl_rep its m []
  rw [List.nil_append] at q
  exact q
theorem op_repL : OpR X (binaryOp .Mult) (fun x y H Q => ∃ l k xs, x = .ref l ∧ y = .int k ∧ SqL X.K H l xs ∧ -(2 ^ 63) ≤ k ∧ k < 2 ^ 63 ∧ xs.length * k.toNat ≤ sizeLine ∧
    ∀ p, H p = none → Q (.ref p) (upd H p (.lst (List.replicate k.toNat xs).flatten))) := by
  intro pins s σ H x y v u Q I rx ry hq
  obtain ⟨l, k, xs, rfl, rfl, sq, k1, k2, room, q⟩ := hq
  cases rx
  obtain ⟨t, rfl⟩ := ry
  obtain ⟨its, r, ⟨⟨cls, dd, data, sl⟩, n, ho, hc, _, hd⟩, _⟩ := I.list sq
  simp only at hc hd
  subst hc hd
  have many : its.toArray.size * k.toNat ≤ sizeLine := by rw [List.size_toArray, ← r.length]; exact room
  have a1 : ¬ its.toArray.size * k.toNat > (2 ^ 63 - 1) / 8 := by
    have : (sizeLine : Nat) ≤ (2 ^ 63 - 1) / 8 := by decide
    omega
  have a2 : ¬ (!Builtin.List.listFitsIndex k) = true := by
    rw [fitsIndex_both k1 k2]
    exact Bool.false_ne_true
  have a3 : ¬ Builtin.List.listTooLong (its.toArray.size * k.toNat) = true := by
    rw [notLongL many]
    exact Bool.false_ne_true
  have flat : List.foldl (fun a b => a ++ b) #[] (List.replicate (if its.toArray.isEmpty = true then 0 else k.toNat) its.toArray) = (List.replicate k.toNat its).flatten.toArray := by
    rw [fold_flat]
    cases its with
    | nil => simp
    | cons c cs => rw [if_neg (by simp)]
  have len : (List.replicate k.toNat its).flatten.length ≤ sizeLine := by
    rw [PyProof.Rows.lm_len_rep_flat, Nat.mul_comm]
    rw [List.size_toArray] at many
    exact many
  refine wpAny_binaryOp_repeat_ref (T := "list") (U := "int") (by decide) ⟨_, ho, rfl⟩ (fun z => typeIs_int z k t) noFill_list_mul PySem.F.fills_int_mul PySem.F.slot_int_rmul repeat_list PySem.F.slot_int_index.lookup
    (call_meets PySem.F.slot_int_rmul (typeIs_int s k t) PySem.F.entry_int_rmul (PySem.F.args_int_rmul_2 _ _) (irmulG k t l its.toArray n dd sl)
      ⟨ho, rfl, ⟨_, ho, rfl⟩, call_meets PySem.F.slot_list_mul ⟨_, ho, rfl⟩ PySem.F.entry_list_mul (PySem.F.args_list_mul_2 _ _) (lmulG l its.toArray n dd sl k t a2 a1 a3 (by rw [flat, List.size_toArray]; exact len)) ⟨ho, ?_⟩⟩)
  rw [flat]
  exact ⟨.ref _, _, I.lnew (t' := s.toks) (r.rep k.toNat) (by rw [PyProof.Rows.lm_len_rep_flat, Nat.mul_comm]; exact room), rfl, q _ I.fresh⟩
/-- a tuple so many times, whatever the number -/
theorem op_repTA : OpR X (binaryOp .Mult) (fun x y H Q => ∃ l k xs, x = .ref l ∧ y = .int k ∧ SqT X.K H l xs ∧ -(2 ^ 62) ≤ k ∧ k ≤ 1000 ∧ xs.length ≤ 1000 ∧ (xs = [] ∨ k = 1 → Q (.ref l) H) ∧
    (¬ (xs = [] ∨ k = 1) → ∀ p, H p = none → Q (.ref p) (upd H p (.tup (List.replicate k.toNat xs).flatten)))) := by
  intro pins s σ H x y v u Q I rx ry hq
  obtain ⟨l, k, xs, rfl, rfl, sq, k0, k1, room, q1, q2⟩ := hq
  by_cases big : 2 ≤ k ∧ xs ≠ []
  · exact op_repT pins s σ H _ _ v u Q I rx ry ⟨l, k, xs, rfl, rfl, sq, big.2, big.1, k1, room, q2 (by rintro (z | z); exact big.2 z; omega)⟩
  cases rx
  obtain ⟨t, rfl⟩ := ry
  obtain ⟨its, r, ⟨⟨cls, dd, data, sl⟩, ho, hc, n, hd⟩, _⟩ := I.tuple sq
  simp only at hc hd
  subst hc hd
  have z0 : (decide (k < -(2 ^ 63)) || decide (k ≥ 2 ^ 63)) = false := by
    rw [decide_eq_false (by omega), decide_eq_false (by omega)] <;> rfl
  have ie : its.toArray.isEmpty = true ↔ xs = [] := by
    have := r.length
    cases its with
    | nil => cases r; simp
    | cons c cs => cases r; simp
  by_cases one : xs = [] ∨ k = 1
  · have z1 : (its.toArray.isEmpty || k == 1) = true := by
      rw [Bool.or_eq_true, ie]
      exact one.imp id fun e => by simp [e]
    refine wpAny_binaryOp_repeat_ref (T := "tuple") (U := "int") (by decide) ⟨_, ho, rfl⟩ (fun z => typeIs_int z k t) noFill_tuple_mul PySem.F.fills_int_mul PySem.F.slot_int_rmul repeat_tuple PySem.F.slot_int_index.lookup
      (call_meets PySem.F.slot_int_rmul (typeIs_int s k t) PySem.F.entry_int_rmul (PySem.F.args_int_rmul_2 _ _) (int_rmul_tuple k t l its.toArray n dd sl)
        ⟨ho, rfl, ⟨_, ho, rfl⟩, call_meets PySem.F.slot_tuple_mul ⟨_, ho, rfl⟩ PySem.F.entry_tuple_mul (PySem.F.args_tuple_mul_2 _ _) (tmulG1 l its.toArray n dd sl k t z0 z1) ⟨ho, ?_⟩⟩)
    exact ⟨.ref l, H, I, rfl, q1 one⟩
  · have ne : ¬ xs = [] := fun z => one (.inl z)
    have kl : k ≤ 0 := by
      have h1 : ¬ k = 1 := fun z => one (.inr z)
      have h2 : ¬ 2 ≤ k := fun z => big ⟨z, ne⟩
      omega
    have ie2 : its.toArray.isEmpty = false := by
      cases q : its.toArray.isEmpty with
      | false => rfl
      | true => exact absurd (ie.mp q) ne
    have z1 : (its.toArray.isEmpty || k == 1) = false := by
      rw [ie2, Bool.false_or]
      exact beq_eq_false_iff_ne.mpr (by omega)
    have z2 : (decide (k ≤ 0) || its.toArray.isEmpty) = true := by rw [decide_eq_true kl]; rfl
    refine wpAny_binaryOp_repeat_ref (T := "tuple") (U := "int") (by decide) ⟨_, ho, rfl⟩ (fun z => typeIs_int z k t) noFill_tuple_mul PySem.F.fills_int_mul PySem.F.slot_int_rmul repeat_tuple PySem.F.slot_int_index.lookup
      (call_meets PySem.F.slot_int_rmul (typeIs_int s k t) PySem.F.entry_int_rmul (PySem.F.args_int_rmul_2 _ _) (int_rmul_tuple k t l its.toArray n dd sl)
        ⟨ho, rfl, ⟨_, ho, rfl⟩, call_meets PySem.F.slot_tuple_mul ⟨_, ho, rfl⟩ PySem.F.entry_tuple_mul (PySem.F.args_tuple_mul_2 _ _) (tmulG0 l its.toArray n dd sl k t z0 z1 z2) ⟨ho, ?_⟩⟩)
    have e0 : (List.replicate k.toNat xs).flatten = [] := by
      have : k.toNat = 0 := by omega
      rw [this]; rfl
    have q3 := q2 one s.heap.objs.size (I.hok.fresh (Nat.le_refl _))
    rw [e0] at q3
    refine ⟨.ref s.heap.objs.size, _, I.laid (t' := s.toks) (o := .tup []) (fun b ob q => Heap.get?_push_of_some _ q) (Nat.le_refl _) ?_, rfl, q3⟩
    exact ⟨by simp, [], .nil, IsTup.new _ _⟩
end
end L2

/-! EvC: the operators: what the layer asks of a value is what the evaluator gives. -/
namespace Ev
open PySem PySem.Spec L2

/-- what is told of an exception: its number, its data; its class, its dict, in F and the heap -/
abbrev XRel := Nat → List PyData → Value → Option Addr → Hp → Hp → Prop

section
variable {K : PySem.W.Frag} {xr : XRel} [Wd]
/-- what must hold behind something that ends as r -/
def PostG (K : PySem.W.Frag) (xr : XRel) {α : Type} (B : List Nat) (Wx : WX) (m : List Addr) (F : Hp) (env : Vars) (σ : L2.St) (H : Hp) (r : R α) (P : α → Hq → List Addr → Hp → Hp → Prop) : Prop := match r with
  | .ok a h' => ∀ m' F' H', Ext m F H m' F' H' → SR K B m' F' env h' σ H' → P a h' m' F' H'
  | .ex c ds h' => ∀ m' F' H' cls dx, Ext m F H m' F' H' → HR K B m' F' h' H' → xr c ds cls dx F' H' → Wx cls dx σ H'
  | .bad => False
/-- .. where a value is asked for -/
def PV (K : PySem.W.Frag) (Q : VK) : W → Hq → List Addr → Hp → Hp → Prop := fun w _ m' F' H' => ∀ v, WR K m' F' v w → Q v H'
abbrev PostE (K : PySem.W.Frag) (xr : XRel) (B : List Nat) (Wx : WX) (m : List Addr) (F : Hp) (env : Vars) (σ : L2.St) (H : Hp) (r : R W) (Q : VK) : Prop := PostG K xr B Wx m F env σ H r (PV K Q)

/-- an expression's reading by its value -/
def tE (K : PySem.W.Frag) (xr : XRel) (B : List Nat) (Wx : WX) (f : Vars → Hq → R W) : TE := fun σ H Q => ∃ m F env h, SR K B m F env h σ H ∧ PostE K xr B Wx m F env σ H (f env h) Q
def tA (K : PySem.W.Frag) (xr : XRel) (B : List Nat) (Wx : WX) (f : Vars → Hq → R (List W)) : TA := fun σ H Q => ∃ m F env h, SR K B m F env h σ H ∧ PostG K xr B Wx m F env σ H (f env h) (fun ws _ m' F' H' => ∀ vs, WRs K m' F' vs ws → Q vs H')
def tT (K : PySem.W.Frag) (xr : XRel) (B : List Nat) (Wx : WX) (f : Vars → Hq → R W) : TT := fun σ H Q => ∃ m F env h, SR K B m F env h σ H ∧ PostG K xr B Wx m F env σ H (f env h) (fun w _ _ _ H' => ∃ k, w = .d (.bool k) ∧ Q k H')

section
variable {B : List Nat} {Wx : WX} {m : List Addr} {F H : Hp} {env : Vars} {h : Hq} {σ : L2.St} {Q : VK} {α β : Type}
theorem PostG.mono {r : R α} {P P' : α → Hq → List Addr → Hp → Hp → Prop} (p : PostG K xr B Wx m F env σ H r P) (i : ∀ a h1 m1 F1 H1, Ext m F H m1 F1 H1 → SR K B m1 F1 env h1 σ H1 → P a h1 m1 F1 H1 → P' a h1 m1 F1 H1) : PostG K xr B Wx m F env σ H r P' := by
  cases r with
  | ok a h' => exact fun m' F' H' e s => i a h' m' F' H' e s (p m' F' H' e s)
  | ex c ds h' => exact p
  | bad => exact p
theorem PostG.bind {r : R α} {f : α → Hq → R β} {P : β → Hq → List Addr → Hp → Hp → Prop} (p : PostG K xr B Wx m F env σ H (r.bind f) P) :
    PostG K xr B Wx m F env σ H r (fun a h1 m1 F1 H1 => PostG K xr B Wx m1 F1 env σ H1 (f a h1) P) := by
  cases r with
  | ok a h1 =>
    intro m1 F1 H1 e1 s1
    have p : PostG K xr B Wx m F env σ H (f a h1) P := p
    show PostG K xr B Wx m1 F1 env σ H1 (f a h1) P
    cases q : f a h1 with
    | ok b h2 =>
      rw [q] at p
      exact fun m2 F2 H2 e2 s2 => p m2 F2 H2 (e1.trans e2) s2
    | ex c ds h2 =>
      rw [q] at p
      exact fun m2 F2 H2 cls dx e2 s2 x => p m2 F2 H2 cls dx (e1.trans e2) s2 x
    | bad => rw [q] at p; exact p
  | ex c ds h1 => exact p
  | bad => exact p
theorem PostE.now {w : W} {v : V} (p : PostE K xr B Wx m F env σ H (.ok w h) Q) (s : SR K B m F env h σ H) (r : WR K m F v w) : Q v H := p m F H (.refl ..) s v r

theorem SR.newF (s : SR K B m F env h σ H) {u : HO} {p : Addr} (hp : H p = none) : SR K B m (upd F p u) env h σ (upd H p u) ∧ Ext m F H m (upd F p u) (upd H p u) := by
  obtain ⟨r, e⟩ := s.hr.newF (u := u) hp
  exact ⟨⟨r, s.el, fun i w q => let ⟨v, h1, h2⟩ := s.var i w q; ⟨v, h1, wr_mono e.ml e.sub h2⟩⟩, e⟩
theorem SR.ext (s : SR K B m F env h σ H) {m' : List Addr} {F' H' : Hp} {h' : Hq} (r : HR K B m' F' h' H') (e : Ext m F H m' F' H') : SR K B m' F' env h' σ H' :=
  ⟨r, s.el, fun i w q => let ⟨v, h1, h2⟩ := s.var i w q; ⟨v, h1, wr_mono e.ml e.sub h2⟩⟩
theorem PostE.newF {d : PyData} {u : HO} {p : Addr} (q : PostE K xr B Wx m F env σ H (.ok (.d d) h) Q) (s : SR K B m F env h σ H) (hp : H p = none) (r : Dp K (upd F p u) (.ref p) d) : Q (.ref p) (upd H p u) := by
  obtain ⟨s', e⟩ := s.newF (u := u) hp
  exact q _ _ _ e s' _ r
theorem PostE.newL {o : Ob} {u : HO} {p : Addr} (q : PostE K xr B Wx m F env σ H (.ok (.l h.length) (h ++ [o])) Q) (s : SR K B m F env h σ H) (hp : H p = none) (ho : OR K (m ++ [p]) F (upd H p u) p o) : Q (.ref p) (upd H p u) := by
  obtain ⟨r, e⟩ := s.hr.newL hp ho (fun _ _ _ => trivial)
  exact q _ _ _ e (s.ext r e) _ ⟨p, by rw [← s.hr.len]; simp, rfl⟩

theorem sq_new {p : Addr} {xs : List V} : SqL K (upd F p (.lst xs)) p xs := .inl (.inl upd_same)
theorem st_new {p : Addr} {xs : List V} : SqT K (upd F p (.tup xs)) p xs := .inl (.inl upd_same)
theorem dp_newL {p : Addr} {vs : List V} {ds : List PyData} (s : HR K B m F h H) (hp : H p = none) (d : DpAll K F vs ds) : Dp K (upd F p (.lst vs)) (.ref p) (.list ds) :=
  .lst sq_new (dps_mono (.upd (s.freeF hp)) _ _ d)
theorem dp_newT {p : Addr} {vs : List V} {ds : List PyData} (s : HR K B m F h H) (hp : H p = none) (d : DpAll K F vs ds) : Dp K (upd F p (.tup vs)) (.ref p) (.tuple ds) :=
  .tup st_new (dps_mono (.upd (s.freeF hp)) _ _ d)

/-- a value, read now -/
inductive Now (K : PySem.W.Frag) (F H : Hp) : V → PyData → Prop
  | now {v : V} {d : PyData} : Dp K F v d → Now K F H v d
  | lst {a : Addr} {vs : List V} {ds : List PyData} : H a = some (.lst vs) → DpAll K F vs ds → Now K F H (.ref a) (.list ds)
theorem now_of (s : HR K B m F h H) {w : W} {v : V} {d : PyData} (r : WR K m F v w) (e : toD h w = some d) : Now K F H v d := by
  cases w with
  | d x => simp only [toD, Option.some.injEq] at e; subst e; exact .now r
  | l n =>
    obtain ⟨a, em, rfl⟩ := r
    simp only [toD] at e
    split at e
    · rename_i xs eo
      cases e
      obtain ⟨f, vs, eH, dd⟩ := s.ob n _ a eo em
      exact .lst eH dd
    · cases e
theorem toDn_dp (s : HR K B m F h H) : ∀ (k : Nat) {w : W} {v : V} {d : PyData}, WR K m F v w → toDn k h w = some d → Dp K H v d
  | _, .d x, v, d, r, e => by
    have e : some x = some d := by cases ‹Nat› <;> exact e
    cases e
    exact dp_mono s.sub _ _ r
  | 0, .l n, v, d, r, e => by simp [toDn] at e
  | k + 1, .l n, v, d, r, e => by
    obtain ⟨a, em, rfl⟩ := r
    simp only [toDn] at e
    split at e
    · rename_i xs eo
      cases e
      obtain ⟨f, vs, eH, dd⟩ := s.ob n _ a eo em
      exact .lst (.of eH) (dps_mono s.sub _ _ dd)
    · rename_i ws eo
      obtain ⟨f, vs, eH, dd⟩ := s.ob n _ a eo em
      rw [Option.map_eq_some_iff] at e
      obtain ⟨ds, e, rfl⟩ := e
      refine .lst (.of eH) ?_
      clear eH eo
      induction dd generalizing ds with
      | nil => simp [allO] at e; subst e; exact .nil
      | cons h1 h2 ih =>
        rename_i w ws
        rw [List.map_cons] at e
        cases q : toDn k h w with
        | none => rw [q] at e; cases e
        | some x =>
          rw [q] at e
          simp only [allO, Option.map_eq_some_iff] at e
          obtain ⟨ds, e, rfl⟩ := e
          exact .cons (toDn_dp s k h1 q) (ih ds e)
    · cases e
theorem toDD_dp (s : HR K B m F h H) {w : W} {v : V} {d : PyData} (r : WR K m F v w) (e : toDD h w = some d) : Dp K H v d := toDn_dp s 3 r e
theorem Now.dp {v : V} {d : PyData} (n : Now K F H v d) (le : HpLe F H) : Dp K H v d := by
  cases n with
  | now r => exact dp_mono le _ _ r
  | lst e r => exact .lst (.of e) (dps_mono le _ _ r)
theorem Now.list {v : V} {ds : List PyData} (n : Now K F H v (.list ds)) (le : HpLe F H) : ∃ a vs, v = .ref a ∧ SqL K H a vs ∧ DpAll K F vs ds := by
  cases n with
  | now r =>
    cases r with
    | lst h1 h2 => exact ⟨_, _, rfl, le.sql h1, h2⟩
  | lst e r => exact ⟨_, _, rfl, .of e, r⟩
theorem Now.tuple {v : V} {ds : List PyData} (n : Now K F H v (.tuple ds)) (le : HpLe F H) : ∃ a vs, v = .ref a ∧ SqT K H a vs ∧ DpAll K F vs ds ∧ Dp K F v (.tuple ds) := by
  cases n with
  | now r =>
    have r' := r
    cases r with
    | tup h1 h2 => exact ⟨_, _, rfl, le.sqt h1, h2, r'⟩
theorem Now.int {v : V} {i : Int} (n : Now K F H v (.int i)) : v = .int i := by
  cases n with
  | now r => cases r; rfl
theorem Now.str {v : V} {i : Str} (n : Now K F H v (.str i)) : v = .str i := by
  cases n with
  | now r => cases r; rfl
end

/-! ### operators -/
theorem sOk_ok {i j : Int} (h : sOk i j = true) : CMul i j := by unfold sOk at h; simpa [CMul] using h
theorem divOk_ok {j : Int} (h : divOk j = true) : j ≠ 0 ∧ j.natAbs < 1073741824 := by unfold divOk at h; exact of_decide_eq_true h
theorem repOk_ok {n : Nat} {k : Int} (h : repOk n k = true) : -(2 ^ 62) ≤ k ∧ k < 2 ^ 62 ∧ n * k.toNat ≤ SZ := by unfold repOk at h; exact of_decide_eq_true h
theorem repTOk_ok {n : Nat} {k : Int} (h : repTOk n k = true) : n ≤ 1000 ∧ -(2 ^ 62) ≤ k ∧ k ≤ 1000 := by unfold repTOk at h; exact of_decide_eq_true h
theorem powOk_ok {i j : Int} (h : powOk i j = true) : 0 ≤ j ∧ j ≤ 1000000 ∧ i.natAbs < 2 ^ 64 := by unfold powOk at h; exact of_decide_eq_true h
section
variable {X : Cx} {B : List Nat} {Wx : WX}
theorem op_catL : OpR X (binaryOp .Add) (fun x y H Q => ∃ l b xs zs, x = .ref l ∧ y = .ref b ∧ SqL X.K H l xs ∧ SqL X.K H b zs ∧ xs.length + zs.length ≤ sizeLine ∧ ∀ p, H p = none → Q (.ref p) (upd H p (.lst (xs ++ zs)))) := by
  intro pins s σ H x y v u Q I rx ry h
  obtain ⟨l, b, xs, zs, rfl, rfl, hH, hB, hz, q⟩ := h
  cases rx
  cases ry
  obtain ⟨its, r, ⟨⟨cls, dd, data, sl⟩, n, ho, hc, _, hd⟩, _⟩ := I.list hH
  obtain ⟨its2, r2, ⟨⟨cls2, dd2, data2, sl2⟩, n2, ho2, hc2, _, hd2⟩, _⟩ := I.list hB
  simp only at hc hd hc2 hd2
  subst hc hd hc2 hd2
  have e : its.toArray ++ its2.toArray = (its ++ its2).toArray := by simp
  refine concat_meets ⟨_, ho, rfl⟩ ⟨_, ho2, rfl⟩ noFill_list_add seq_list_add PySem.F.slot_list_add PySem.F.entry_list_add (PySem.F.args_list_add_2 _ _) (PyProof.Rows.list_addW l b its.toArray its2.toArray n n2 dd dd2 sl sl2 (by rw [List.size_toArray, List.size_toArray, ← r.length, ← r2.length]; exact hz)) ⟨ho, ho2, ?_⟩
  rw [e]
  exact ⟨.ref _, _, I.lnew (t' := s.toks) (r.append r2) (by rw [List.length_append]; omega), rfl, q _ I.fresh⟩

/-- the reading of an operator: as the evaluator says -/
def rOp (K : PySem.W.Frag) (xr : XRel) (B : List Nat) (Wx : WX) (f : W → W → Hq → R W) : R2 := fun x y H Q => ∃ m F env h σ v w, SR K B m F env h σ H ∧ WR K m F x v ∧ WR K m F y w ∧ PostE K xr B Wx m F env σ H (f v w h) Q

theorem op2_cases {f : PyData → PyData → Option PyData} {v w : W} {h : Hq} {m : List Addr} {F H : Hp} {env : Vars} {σ : L2.St} {Q : VK} (p : PostE K xr B Wx m F env σ H (op2 f v w h) Q) :
    ∃ d e r, toD h v = some d ∧ toD h w = some e ∧ f d e = some r ∧ PostE K xr B Wx m F env σ H (.ok (.d r) h) Q := by
  unfold op2 at p
  split at p
  · rename_i d e h1 h2
    unfold liftO at p
    split at p
    · rename_i r h3
      exact ⟨d, e, r, h1, h2, h3, p⟩
    · exact p.elim
  · exact p.elim
theorem sz_eq : (SZ : Nat) = sizeLine := by rw [PySem.sizeLine_eq]; rfl

theorem op_bin (o : Operator) : OpR X (binaryOp o) (rOp X.K xr B Wx (op2 (evBin o))) := by
  intro pins s σ H x y v u Q I rx ry hq
  obtain ⟨m, F, env, h, σ', w1, w2, S, r1, r2, p⟩ := hq
  obtain ⟨d, e, r, t1, t2, ev, p⟩ := op2_cases p
  have n1 := now_of S.hr r1 t1
  have n2 := now_of S.hr r2 t2
  have fin : ∀ {v : V}, Dp X.K F v r → Q v H := fun q => PostE.now p S q
  have szE := sz_eq
  cases o <;> cases d <;> cases e <;> simp only [evBin, reduceCtorEq] at ev
  -- int + int, str + str, list + list, tuple + tuple
  case Add.int.int i j => cases n1.int; cases n2.int; cases ev; exact op_add pins s σ H _ _ v u Q I rx ry ⟨i, j, rfl, rfl, fin (.int _)⟩
  case Add.str.str i j =>
    split at ev
    · cases n1.str; cases n2.str; cases ev
      exact op_add_str pins s σ H _ _ v u Q I rx ry ⟨i, j, rfl, rfl, by omega, fin (.str _)⟩
    · cases ev
  case Add.list.list i j =>
    split at ev
    · cases ev
      obtain ⟨a, vs, rfl, s1, d1⟩ := n1.list S.hr.sub
      obtain ⟨b, us, rfl, s2, d2⟩ := n2.list S.hr.sub
      have l1 := d1.length
      have l2 := d2.length
      exact op_catL pins s σ H _ _ v u Q I rx ry ⟨a, b, vs, us, rfl, rfl, s1, s2, by omega, fun q hq => PostE.newF p S hq (dp_newL S.hr hq (d1.app d2))⟩
    · cases ev
  case Add.tuple.tuple i j =>
    split at ev
    · cases ev
      obtain ⟨a, vs, rfl, s1, d1, e1⟩ := n1.tuple S.hr.sub
      obtain ⟨b, us, rfl, s2, d2, e2⟩ := n2.tuple S.hr.sub
      have l1 := d1.length
      have l2 := d2.length
      refine op_catA pins s σ H _ _ v u Q I rx ry ⟨a, b, vs, us, rfl, rfl, s1, s2, by omega, fun z => fin ?_, fun _ z => fin ?_, fun _ _ q hq => PostE.newF p S hq (dp_newT S.hr hq (d1.app d2))⟩
      · subst z
        cases d1
        simpa using e2
      · subst z
        cases d2
        simpa using e1
    · cases ev
  case Sub.int.int i j => cases n1.int; cases n2.int; cases ev; exact op_sub pins s σ H _ _ v u Q I rx ry ⟨i, j, rfl, rfl, fin (.int _)⟩
  case Mult.int.int i j =>
    split at ev
    · rename_i hc
      cases n1.int; cases n2.int; cases ev
      exact op_mul pins s σ H _ _ v u Q I rx ry ⟨i, j, rfl, rfl, sOk_ok hc, fin (.int _)⟩
    · cases ev
  case Mult.list.int i j =>
    split at ev
    · rename_i hc
      cases n2.int; cases ev
      obtain ⟨a, vs, rfl, s1, d1⟩ := n1.list S.hr.sub
      have hc := repOk_ok hc
      have l1 := d1.length
      exact op_repL pins s σ H _ _ v u Q I rx ry ⟨a, j, vs, rfl, rfl, s1, by omega, by omega, by rw [l1]; omega, fun q hq => PostE.newF p S hq (dp_newL S.hr hq (d1.rep _))⟩
    · cases ev
  case Mult.tuple.int i j =>
    split at ev
    · rename_i hc
      cases n2.int; cases ev
      obtain ⟨a, vs, rfl, s1, d1, e1⟩ := n1.tuple S.hr.sub
      have hc := repTOk_ok hc
      have l1 := d1.length
      refine op_repTA pins s σ H _ _ v u Q I rx ry ⟨a, j, vs, rfl, rfl, s1, hc.2.1, hc.2.2, by omega, fun z => fin ?_, fun z q hq => PostE.newF p S hq (dp_newT S.hr hq (d1.rep _))⟩
      rcases z with z | z
      · subst z
        have hi : i = [] := by cases d1; rfl
        subst hi
        have e0 : repL ([] : List PyData) j = [] := by unfold repL; simp
        rw [e0]; exact e1
      · subst z
        have e0 : repL i 1 = i := by unfold repL; simp
        rw [e0]; exact e1
    · cases ev
  case FloorDiv.int.int i j =>
    split at ev
    · rename_i hc
      cases n1.int; cases n2.int; cases ev
      exact op_fdivN pins s σ H _ _ v u Q I rx ry ⟨i, j, rfl, rfl, divOk_ok hc, fin (.int _)⟩
    · cases ev
  case Mod.int.int i j =>
    split at ev
    · rename_i hc
      cases n1.int; cases n2.int; cases ev
      exact op_modN pins s σ H _ _ v u Q I rx ry ⟨i, j, rfl, rfl, hc, fin (.int _)⟩
    · cases ev
  case Pow.int.int i j =>
    split at ev
    · rename_i hc
      cases n1.int; cases n2.int; cases ev
      exact op_pow pins s σ H _ _ v u Q I rx ry ⟨i, j, rfl, rfl, powOk_ok hc, fin (.int _)⟩
    · cases ev
  case LShift.int.int i j =>
    split at ev
    · rename_i hc
      cases n1.int; cases n2.int; cases ev
      exact op_shl pins s σ H _ _ v u Q I rx ry ⟨i, j, rfl, rfl, powOk_ok hc, fin (.int _)⟩
    · cases ev

end
/-! ### dicts -/
mutual
theorem nkey_is {h : Heap} : ∀ (d : PyData) (v : Value) (as : List Addr) (k : NestedKey), Reads h v d as → nkey d = some k → NestedIs h k v
  | .none, _, _, _, r, e => by cases r; simp only [nkey, Option.some.injEq] at e; subst e; exact .none
  | .bool b, _, _, _, r, e => by cases r; simp only [nkey, Option.some.injEq] at e; subst e; exact .bool rfl
  | .int i, _, _, _, r, e => by cases r; simp only [nkey, Option.some.injEq] at e; subst e; exact .int _ _
  | .str x, _, _, _, r, e => by cases r; simp only [nkey, Option.some.injEq] at e; subst e; exact .text _ _
  | .tuple xs, _, _, _, r, e => by
    cases r with
    | tuple h1 h2 h3 h4 =>
      simp only [nkey, Option.map_eq_some_iff] at e
      obtain ⟨ks, e, rfl⟩ := e
      exact .tup h1 h2 h3 (nkeys_is _ _ _ _ h4 e)
  | .list _, _, _, _, _, e => by simp [nkey] at e
  | .dict _, _, _, _, _, e => by simp [nkey] at e
theorem nkeys_is {h : Heap} : ∀ (ds : List PyData) (vs : List Value) (as : List Addr) (ks : List NestedKey), ReadsAll h vs ds as → nkeys ds = some ks → NestedAll h ks vs
  | [], _, _, _, r, e => by cases r; simp only [nkeys, Option.some.injEq] at e; subst e; exact .nil
  | d :: ds, _, _, _, r, e => by
    cases r with
    | cons h1 h2 =>
      simp only [nkeys] at e
      split at e
      · rename_i k ks e1 e2
        cases e
        exact .cons (nkey_is _ _ _ _ h1 e1) (nkeys_is _ _ _ _ h2 e2)
      · cases e
end
mutual
theorem nkey_depth : ∀ (d : PyData) (k : NestedKey), nkey d = some k → k.depth = d.depth
  | .none, _, e => by simp only [nkey, Option.some.injEq] at e; subst e; rfl
  | .bool b, _, e => by simp only [nkey, Option.some.injEq] at e; subst e; rfl
  | .int i, _, e => by simp only [nkey, Option.some.injEq] at e; subst e; rfl
  | .str x, _, e => by simp only [nkey, Option.some.injEq] at e; subst e; rfl
  | .tuple xs, _, e => by
    simp only [nkey, Option.map_eq_some_iff] at e
    obtain ⟨ks, e, rfl⟩ := e
    simp only [NestedKey.depth, PyData.depth, nkeys_depth _ _ e]
  | .list _, _, e => by simp [nkey] at e
  | .dict _, _, e => by simp [nkey] at e
theorem nkeys_depth : ∀ (ds : List PyData) (ks : List NestedKey), nkeys ds = some ks → NestedKey.depthAll ks = PyData.depthAll ds
  | [], _, e => by simp only [nkeys, Option.some.injEq] at e; subst e; rfl
  | d :: ds, _, e => by
    simp only [nkeys] at e
    split at e
    · rename_i k ks e1 e2
      cases e
      simp only [NestedKey.depthAll, PyData.depthAll, nkey_depth _ _ e1, nkeys_depth _ _ e2]
    · cases e
end
theorem isKey_ok {d : PyData} (h : isKey d = true) : ∃ xs k, d = .tuple xs ∧ nkey d = some k ∧ d.depth ≤ 8 := by
  cases d <;> simp only [isKey, Bool.false_eq_true] at h
  rename_i xs
  simp only [Bool.and_eq_true, decide_eq_true_eq, Option.isSome_iff_exists] at h
  obtain ⟨⟨k, e⟩, hd⟩ := h
  exact ⟨xs, k, rfl, e, hd⟩
section
variable {K : PySem.W.Frag} {F : Hp}
theorem DK.get {kvs : List (PyData × PyData)} {es : List (NestedKey × Addr × Value)} (h : DK K F kvs es) {d : PyData} {k : NestedKey} (e : nkey d = some k) :
    match dget kvs d with
    | some x => ∃ p v, atKey es k = some p ∧ RelV v p.2 ∧ Dp K F v x
    | none => atKey es k = none := by
  induction h with
  | nil => simp [dget, atKey]
  | cons h1 h2 h3 h4 h5 h6 ih =>
    rename_i d' x r k' a u v s
    have ek : keyEq d' d = decide (k' = k) := by
      unfold keyEq
      rw [h1, e]
      simp
    by_cases hk : k' = k
    · subst hk
      have e1 : dget ((d', x) :: r) d = some x := by simp [dget, ek]
      have e2 : atKey ((k', a, u) :: s) k' = some (a, u) := by simp [atKey]
      rw [e1]
      exact ⟨_, v, e2, h4, h5⟩
    · have e1 : dget ((d', x) :: r) d = dget r d := by simp [dget, ek, hk]
      have e2 : atKey ((k', a, u) :: s) k = atKey s k := by simp [atKey, hk]
      rw [e1, e2]
      exact ih
theorem DK.put {kvs : List (PyData × PyData)} {es : List (NestedKey × Addr × Value)} (h : DK K F kvs es) {d y : PyData} {k : NestedKey} {b : Addr} {z : V} {u : Value} (e : nkey d = some k) (hd : d.depth ≤ 8) (hb : Dp K F (.ref b) d) (r : RelV z u) (ry : Dp K F z y) :
    DK K F (dput kvs d y) (storedH es k b u) := by
  have g := h.get e
  have hm : ∀ {kvs : List (PyData × PyData)} {es : List (NestedKey × Addr × Value)}, DK K F kvs es → DK K F (kvs.map fun p => if keyEq p.1 d then (p.1, y) else p) (es.map (putAt k u)) := by
    intro kvs es h
    induction h with
    | nil => exact .nil
    | cons h1 h2 h3 h4 h5 h6 ih =>
      rename_i d' x r' k' a u' v s
      have ek : keyEq d' d = decide (k' = k) := by
        unfold keyEq
        rw [h1, e]
        simp
      rw [List.map_cons, List.map_cons]
      by_cases hk : k' = k
      · have e1 : (if keyEq d' d = true then (d', y) else (d', x)) = (d', y) := by simp [ek, hk]
        have e2 : putAt k u (k', a, u') = (k', a, u) := by simp [putAt, hk]
        show DK K F ((if keyEq d' d = true then (d', y) else (d', x)) :: _) (putAt k u (k', a, u') :: _)
        rw [e1, e2]
        exact .cons h1 h2 h3 r ry ih
      · have e1 : (if keyEq d' d = true then (d', y) else (d', x)) = (d', x) := by simp [ek, hk]
        have e2 : putAt k u (k', a, u') = (k', a, u') := by simp [putAt, hk]
        show DK K F ((if keyEq d' d = true then (d', y) else (d', x)) :: _) (putAt k u (k', a, u') :: _)
        rw [e1, e2]
        exact .cons h1 h2 h3 h4 h5 ih
  have ha : ∀ {kvs : List (PyData × PyData)} {es : List (NestedKey × Addr × Value)}, DK K F kvs es → DK K F (kvs ++ [(d, y)]) (es ++ [(k, b, u)]) := by
    intro kvs es h
    induction h with
    | nil => exact .cons e hb hd r ry .nil
    | cons h1 h2 h3 h4 h5 h6 ih => exact .cons h1 h2 h3 h4 h5 ih
  unfold dput
  cases q : dget kvs d with
  | some x =>
    rw [q] at g
    obtain ⟨p, v, e1, _⟩ := g
    rw [storedH_old e1, Option.isSome_some, if_pos rfl]
    exact hm h
  | none =>
    rw [q] at g
    rw [storedH_new g, Option.isSome_none, if_neg (by simp)]
    exact ha h
theorem DK.keys {kvs : List (PyData × PyData)} {es : List (NestedKey × Addr × Value)} (h : DK K F kvs es) : ∀ x ∈ es, ∃ d, nkey d = some x.1 ∧ Dp K F (.ref x.2.1) d ∧ d.depth ≤ 8 := by
  induction h with
  | nil => intro x hx; simp at hx
  | cons h1 h2 h3 h4 h5 h6 ih =>
    intro x hx
    rcases List.mem_cons.mp hx with e | hx
    · subst e; exact ⟨_, h1, h2, h3⟩
    · exact ih x hx
end
section
variable {X : Cx} {pins : List (Addr × Obj)} {σ : L2.St} {F H : Hp} {s : Shared} {a : Addr} {A : Around} {E : Value → Shared → Prop} {kvs : List (PyData × PyData)} {es : List (NestedKey × Addr × Value)}
theorem dk_is (I : Inv X pins σ H s) (le : HpLe F H) {d : PyData} {k : NestedKey} {b : Addr} (e : nkey d = some k) (hd : d.depth ≤ 8) (r : Dp X.K F (.ref b) d) : (nestedKind X.prog X.w).is s.heap k b := by
  obtain ⟨as, q⟩ := Dp.reads I d (.ref b) (.ref b) (dp_mono le _ _ r) rfl
  exact ⟨nkey_is _ _ _ _ q e, by rw [nkey_depth _ _ e]; exact hd⟩
/-- the dict's object, as the library tells it -/
theorem dk_of (hw : X.w = Wd.w) (I : Inv X pins σ H s) (le : HpLe F H) (e : H a = some (dctO a es)) (d : DK X.K F kvs es) (nd : (es.map (·.1)).Nodup) : s.heap.DictOfH (nestedKind X.prog X.w) a es := by
  have ok : ObjOk X.prog X.w H s.heap a (dctO a es) := I.hok a _ e
  obtain ⟨⟨o, es', ep, h1, h2, h3, h4⟩, _, _⟩ := ok
  refine ⟨o, es', ep, h1, h2, h3, ?_, fun x hx => ?_, nd⟩
  · rw [h4, ← hw]; rfl
  · obtain ⟨d, e1, e2, e3⟩ := d.keys x hx
    exact dk_is I le e1 e3 e2
theorem dk_ok (hw : X.w = Wd.w) {h' : Heap} {es : List (NestedKey × Addr × Value)} {H' : Hp} (d : h'.DictOfH (nestedKind X.prog X.w) a es) : ObjOk X.prog X.w H' h' a (dctO a es) := by
  obtain ⟨o, es', ep, h1, h2, h3, h4, _, _⟩ := d
  refine ⟨⟨o, es', ep, h1, h2, h3, ?_⟩, ⟨o, h1⟩, fun g1 g2 ⟨o, es', ep, k1, k2, k3, k4⟩ k => ⟨o, es', ep, k o k1, k2, k3, k4⟩⟩
  rw [h4, hw]; rfl
theorem dk_room (hu : X.A.units + 200 < cLine) : (nestedKind X.prog X.w).room X.A.in1 := by
  show X.A.units + 1 + 8 < cLine
  omega
theorem dk_in {Q : VK} (hw : X.w = Wd.w) (hu : X.A.units + 200 < cLine) (I : Inv X pins σ H s) (le : HpLe F H) (e : H a = some (dctO a es)) (d : DK X.K F kvs es) (nd : (es.map (·.1)).Nodup) (hs : (a == sysModules) = false) {y : PyData} {k : NestedKey} {b : Addr} (ek : nkey y = some k) (hd : y.depth ≤ 8) (r : Dp X.K F (.ref b) y)
    (q : Q (.bl (dget kvs y).isSome) H) : wpAny (model X.prog X.w) X.A (compareOp .In (.ref b) (.ref a)) (EP X pins σ Q) X.xe s := by
  refine wpAny_in_heap (dk_room hu) (dk_is I le ek hd r) hs (dk_of hw I le e d nd) ?_
  have g := d.get ek
  cases z : dget kvs y with
  | some x =>
    rw [z] at g q
    obtain ⟨p, v, e1, _⟩ := g
    rw [e1]
    exact ⟨.bl true, H, I.tok _, rfl, q⟩
  | none =>
    rw [z] at g q
    rw [g]
    exact ⟨.bl false, H, I.tok _, rfl, q⟩
theorem dk_notin {Q : VK} (hw : X.w = Wd.w) (hu : X.A.units + 200 < cLine) (I : Inv X pins σ H s) (le : HpLe F H) (e : H a = some (dctO a es)) (d : DK X.K F kvs es) (nd : (es.map (·.1)).Nodup) (hs : (a == sysModules) = false) {y : PyData} {k : NestedKey} {b : Addr} (ek : nkey y = some k) (hd : y.depth ≤ 8) (r : Dp X.K F (.ref b) y)
    (q : Q (.bl (!(dget kvs y).isSome)) H) : wpAny (model X.prog X.w) X.A (compareOp .NotIn (.ref b) (.ref a)) (EP X pins σ Q) X.xe s := by
  refine PyProof.Rows.wpAny_notIn_heap (dk_room hu) (dk_is I le ek hd r) hs (dk_of hw I le e d nd) ?_
  have g := d.get ek
  cases z : dget kvs y with
  | some x =>
    rw [z] at g q
    obtain ⟨p, v, e1, _⟩ := g
    rw [e1]
    exact ⟨.bl false, H, I.tok _, rfl, q⟩
  | none =>
    rw [z] at g q
    rw [g]
    exact ⟨.bl true, H, I.tok _, rfl, q⟩
end
/-! ### comparisons -/
section
variable {X : Cx} {B : List Nat} {Wx : WX}
theorem str_one {x : Str} (h : x.length = 1) : x = ⟨#[x.cps.getD 0 0]⟩ := by
  obtain ⟨⟨l⟩⟩ := x
  have h : l.length = 1 := h
  rcases l with _ | ⟨c, _ | ⟨c2, l⟩⟩
  · simp at h
  · rfl
  · simp at h
theorem in_one (x y : Str) (h : x.length = 1) : (!(Builtin.Str.occurrences y x 0 y.length 1).isEmpty) = y.cps.contains (x.cps.getD 0 0) := by
  rw [str_one h, StrLaws.found_one]
  simp [Array.contains_eq_mem]
theorem dkiOf_ok {h : Hq} {w : W} {kvs : List (Int × PyData)} (e : dkiOf h w = some kvs) : ∃ n, w = .l n ∧ h[n]? = some (.dki kvs) := by
  unfold dkiOf at e
  split at e
  · split at e
    · rename_i n _ k eo
      cases e
      exact ⟨_, rfl, eo⟩
    · cases e
  · cases e
theorem op_cmp (hw : X.w = Wd.w) (hu : X.A.units + 200 < cLine) (o : CmpOp) : OpR X (compareOp o) (rOp X.K xr B Wx (cmpW o)) := by
  intro pins s σ H x y v u Q I rx ry hq
  obtain ⟨m, F, env, h, σ', w1, w2, S, r1, r2, p⟩ := hq
  have fin : ∀ {v : V} {r : PyData}, Dp X.K F v r → PostE X.K xr B Wx m F env σ' H (.ok (.d r) h) Q → Q v H := fun q p => PostE.now p S q
  unfold cmpW at p
  split at p
  · rename_i kvs ed
    unfold dctOf at ed
    split at ed
    · rename_i n
      split at ed
      · rename_i kvs' eo
        cases ed
        obtain ⟨a, em, rfl⟩ := r2
        cases ry
        obtain ⟨fa, es, eH, dk, nd, hs, hl⟩ := S.hr.ob n _ a eo em
        split at p
        · rename_i k
          split at p
          · rename_i hk
            obtain ⟨xs, nk, rfl, ek, hd⟩ := isKey_ok hk
            have r1 : Dp X.K F x (.tuple xs) := r1
            have r1' := r1
            cases r1 with
            | tup h1 h2 =>
              cases rx
              exact dk_in hw hu I S.hr.sub eH dk nd hs ek hd r1' (fin (.bl _) p)
          · exact p.elim
        · rename_i k
          split at p
          · rename_i hk
            obtain ⟨xs, nk, rfl, ek, hd⟩ := isKey_ok hk
            have r1 : Dp X.K F x (.tuple xs) := r1
            have r1' := r1
            cases r1 with
            | tup h1 h2 =>
              cases rx
              exact dk_notin hw hu I S.hr.sub eH dk nd hs ek hd r1' (fin (.bl _) p)
          · exact p.elim
        · exact p.elim
      · cases ed
    · cases ed
  split at p
  rotate_left
  · unfold cmpI at p
    split at p
    rotate_left
    · exact p.elim
    rename_i kvs ed
    obtain ⟨n, rfl, eo⟩ := dkiOf_ok ed
    obtain ⟨a, em, rfl⟩ := r2
    cases ry
    obtain ⟨fa, vs, eH, di, hl⟩ := S.hr.ob n _ a eo em
    split at p
    · rename_i k _
      have r1 : Dp X.K F x (.int k) := r1
      cases r1
      have g := di.get k
      refine d_in (by show X.A.units + 1 < cLine; omega) I (DGet.k (k := .inl k) eH) rx fun s' I' => ?_
      refine ⟨.bl (iget kvs k).isSome, H, I', ?_, fin (.bl _) p⟩
      cases z : iget kvs k with
      | some y => rw [z] at g; obtain ⟨u', e1, _⟩ := g; rw [e1]; rfl
      | none => rw [z] at g; rw [g]; rfl
    · rename_i k _
      have r1 : Dp X.K F x (.int k) := r1
      cases r1
      have g := di.get k
      refine d_notIn (by show X.A.units + 1 < cLine; omega) I (DGet.k (k := .inl k) eH) rx fun s' I' => ?_
      refine ⟨.bl (!(iget kvs k).isSome), H, I', ?_, fin (.bl _) p⟩
      cases z : iget kvs k with
      | some y => rw [z] at g; obtain ⟨u', e1, _⟩ := g; rw [e1]; rfl
      | none => rw [z] at g; rw [g]; rfl
    · exact p.elim
  rename_i d e t1 t2
  unfold liftO at p
  split at p
  rotate_left
  · exact p.elim
  rename_i r ev
  have d1 := toDD_dp S.hr r1 t1
  have d2 := toDD_dp S.hr r2 t2
  have p1 := dp_plain _ _ d1
  have p2 := dp_plain _ _ d2
  obtain ⟨as, q1⟩ := Dp.reads I d x v d1 rx
  obtain ⟨bs, q2⟩ := Dp.reads I e y u d2 ry
  have bl : ∀ {k : Bool}, r = .bool k → EP X pins σ Q (.bool k) s := fun {k} ek => by
    subst ek
    exact ⟨.bl k, H, I, rfl, fin (.bl k) p⟩
  cases o
  case Eq =>
    simp only [evCmp] at ev
    split at ev
    · rename_i hc
      cases ev
      have hm : min d.depth e.depth ≤ 150 := by
        rcases Bool.or_eq_true _ _ ▸ hc with z | z
        · have := of_decide_eq_true z; omega
        · have := of_decide_eq_true z; omega
      exact SeqAt.eq_plain q1 q2 p1 p2 (by omega) (bl rfl)
    · cases ev
  case NotEq =>
    simp only [evCmp] at ev
    split at ev
    · rename_i hc
      cases ev
      have hm : min d.depth e.depth ≤ 150 := by
        rcases Bool.or_eq_true _ _ ▸ hc with z | z
        · have := of_decide_eq_true z; omega
        · have := of_decide_eq_true z; omega
      exact SeqAt.ne_plain q1 q2 p1 p2 (by omega) (bl rfl)
    · cases ev
  case In =>
    cases e <;> simp only [evCmp, reduceCtorEq] at ev
    case list ys =>
      split at ev
      · rename_i hc
        cases ev
        have := of_decide_eq_true hc
        exact SeqAt.in_list_data q2 q1 (by simpa [PyData.plain] using p2) p1 (by omega) (bl rfl)
      · cases ev
    case tuple ys =>
      split at ev
      · rename_i hc
        cases ev
        have := of_decide_eq_true hc
        exact SeqAt.in_tuple_data q2 q1 (by simpa [PyData.plain] using p2) p1 (by omega) (bl rfl)
      · cases ev
    case str ys =>
      cases d <;> simp only [evCmp, reduceCtorEq] at ev
      split at ev
      · rename_i z hc
        cases ev
        cases d1; cases d2
        exact op_in_str pins s σ H _ _ v u Q I rx ry ⟨z, ys, rfl, rfl, by rw [in_one _ _ hc]; exact fin (.bl _) p⟩
      · cases ev
    all_goals (cases d <;> simp only [evCmp, reduceCtorEq] at ev)
  case NotIn =>
    cases e <;> simp only [evCmp, reduceCtorEq] at ev
    case list ys =>
      split at ev
      · rename_i hc
        cases ev
        have := of_decide_eq_true hc
        exact SeqAt.notIn_list_data q2 q1 (by simpa [PyData.plain] using p2) p1 (by omega) (bl rfl)
      · cases ev
    case tuple ys =>
      split at ev
      · rename_i hc
        cases ev
        have := of_decide_eq_true hc
        exact SeqAt.notIn_tuple_data q2 q1 (by simpa [PyData.plain] using p2) p1 (by omega) (bl rfl)
      · cases ev
    case str ys =>
      cases d <;> simp only [evCmp, reduceCtorEq] at ev
      split at ev
      · rename_i z hc
        cases ev
        cases d1; cases d2
        exact op_notin_str pins s σ H _ _ v u Q I rx ry ⟨z, ys, rfl, rfl, by rw [in_one _ _ hc]; exact fin (.bl _) p⟩
      · cases ev
    all_goals (cases d <;> simp only [evCmp, reduceCtorEq] at ev)
  all_goals (cases d <;> cases e <;> simp only [evCmp, reduceCtorEq] at ev)
  case Lt.int.int i j => cases d1; cases d2; cases ev; exact op_lt pins s σ H _ _ v u Q I rx ry ⟨i, j, rfl, rfl, fin (.bl _) p⟩
  case LtE.int.int i j => cases d1; cases d2; cases ev; exact op_le pins s σ H _ _ v u Q I rx ry ⟨i, j, rfl, rfl, fin (.bl _) p⟩
  case Lt.tuple.tuple xs ys =>
    split at ev
    · rename_i hc
      cases ev
      obtain ⟨h1, h2⟩ := Bool.and_eq_true_iff.mp hc
      have := of_decide_eq_true h2
      exact PySem.W.lt_data q1 q2 h1 (by simp) (by omega) (bl rfl)
    · cases ev
  case LtE.tuple.tuple xs ys =>
    split at ev
    · rename_i hc
      cases ev
      obtain ⟨h1, h2⟩ := Bool.and_eq_true_iff.mp hc
      have := of_decide_eq_true h2
      exact PySem.W.le_data q1 q2 h1 (by simp) (by omega) (bl rfl)
    · cases ev
  case Gt.tuple.tuple xs ys =>
    split at ev
    · rename_i hc
      cases ev
      obtain ⟨h1, h2⟩ := Bool.and_eq_true_iff.mp hc
      have := of_decide_eq_true h2
      exact PySem.W.gt_data q1 q2 h1 (by simp) (by omega) (bl rfl)
    · cases ev
  case GtE.tuple.tuple xs ys =>
    split at ev
    · rename_i hc
      cases ev
      obtain ⟨h1, h2⟩ := Bool.and_eq_true_iff.mp hc
      have := of_decide_eq_true h2
      exact PySem.W.ge_data q1 q2 h1 (by simp) (by omega) (bl rfl)
    · cases ev
  case Gt.int.int i j => cases d1; cases d2; cases ev; exact op_gt pins s σ H _ _ v u Q I rx ry ⟨i, j, rfl, rfl, fin (.bl _) p⟩
  case GtE.int.int i j => cases d1; cases d2; cases ev; exact op_ge pins s σ H _ _ v u Q I rx ry ⟨i, j, rfl, rfl, fin (.bl _) p⟩
end
end
end Ev

/-! EvD: which term stands for which piece of the text (matE), and that its value is what the layer's reading asks (sndE). -/
namespace Ev
open PySem PySem.Spec L2

/-! ### the terms of a text -/
structure ME where
  N : List Str
  fn : List Str
  gi : List (Str × Int)

def isGl (sc : Scope) (x : Str) : Bool := decide (sc.names.lookup x = some .globalImplicit)
def isVis (sc : Scope) (x : Str) : Bool := match sc.names.lookup x with
  | some .local => true
  | some .cell => true
  | some .free => true
  | _ => false
def isSto (sc : Scope) (x : Str) : Bool := match sc.names.lookup x with
  | some .local => true
  | some .cell => true
  | _ => false
def plainN (x : Str) : Bool := decide (x ≠ ("__debug__" : Str)) && decide (x ≠ ("__classdict__" : Str)) && decide (x ≠ ("__name__" : Str))
def notStar : Expr → Bool
  | .Starred _ _ => false
  | _ => true
def notSlice : Expr → Bool
  | .Slice _ _ _ _ => false
  | _ => true
def notSet : Expr → Bool
  | .Set _ _ _ => false
  | _ => true
def notIf : Expr → Bool
  | .IfExp _ _ _ _ => false
  | _ => true
def isBO : Expr → Bool
  | .BoolOp _ _ _ => true
  | _ => false
def notCall0 : Expr → Bool
  | .Call (.Name _ _) [] [] _ => false
  | _ => true
def matC : PyData → Const → Bool
  | .int i, .int j => decide (i = j)
  | .bool i, .bool j => decide (i = j)
  | .str i, .str j => decide (i = j)
  | .none, .none => true
  | _, _ => false
def Bt.nm : Bt → Str
  | .len => "len" | .tuple => "tuple" | .int => "int" | .sum => "sum" | .max => "max" | .min => "min" | .all => "all" | .any => "any" | .sorted => "sorted"
  | .list => "list" | .repr => "repr" | .str => "str" | .max2 => "max" | .min2 => "min"
def Bt.isTy : Bt → Bool
  | .tuple => true | .int => true | .list => true | .str => true
  | _ => false
def Mt.nm : Mt → Str
  | .count => "count" | .index => "index" | .get => "get" | .pop => "pop"
def Mt.okM : Mt → Bool
  | .count => true | .index => true | .get => true | .pop => false
def Es.len : Es → Nat
  | .nil => 0
  | .cons _ es => es.len + 1
def isAt (N : List Str) (i : Nat) (x : Str) : Bool := decide (N[i]? = some x)
def matTs (N : List Str) (sto : Str → Bool) : List Nat → List Expr → Bool
  | [], [] => true
  | i :: is, .Name x _ :: ps => isAt N i x && sto x && matTs N sto is ps
  | _, _ => false
def matT (N : List Str) (sto : Str → Bool) (t : List Nat) (u : Bool) (tg : Expr) : Bool := match u, t, tg with
  | false, [i], .Name x _ => isAt N i x && sto x
  | true, t, .Tuple ps _ _ => matTs N sto t ps
  | _, _, _ => false
def ownOf (N : List Str) (t : List Nat) : List (Str × Nat) := t.filterMap fun i => (N[i]?).map fun x => (x, i)

def Ity.nm : Ity → Str
  | .int => "int" | .bool => "bool" | .str => "str" | .tuple => "tuple"
def isTy (sc : Scope) (c : Ity) : Expr → Bool
  | .Name y _ => decide (y = c.nm) && isGl sc y
  | _ => false
/-- range(a) -/
def rgOf (sc : Scope) : Expr → Option Expr
  | .Call (.Name y _) [pa] [] _ => if y = "range" ∧ isGl sc y ∧ notStar pa then some pa else none
  | _ => none
def intC : Expr → Option Int
  | .Constant (.int i) _ _ => some i
  | .UnaryOp .USub (.Constant (.int i) _ _) _ => some (-i)
  | _ => none
def dictOf : Expr → Option (List (Option Expr) × List Expr)
  | .Dict ks vs _ => some (ks, vs)
  | _ => none
def keyIsC (s : Str) : Option Expr → Bool
  | some (.Constant (.str t) _ _) => decide (s = t)
  | _ => false
def matKV : List (Str × Int) → List (Option Expr) → List Expr → Bool
  | [], [], [] => true
  | (s, i) :: r, k :: ks, v :: vs => keyIsC s k && decide (intC v = some i) && matKV r ks vs
  | _, _, _ => false
def noSC : Expr → Bool
  | .ListComp _ _ _ _ => false
  | .SetComp _ _ _ _ => false
  | .DictComp _ _ _ _ _ => false
  | _ => true
def isM1 : Expr → Bool
  | .UnaryOp .USub (.Constant (.int i) _ _) _ => decide (i = 1)
  | _ => false
mutual
def matE (M : ME) : Scope → E → Expr → Bool
  | _, .bad, p => noSC p
  | _, .dnew, .Dict [] [] _ => true
  | _, .dnewI, .Dict [] [] _ => true
  | sc, .glb i, .Name x _ => M.gi.contains (x, i) && isGl sc x && plainN x
  | sc, .trg t a, .Call (.Name x _) [q] [] _ => decide (x = if t then "tuple" else "list") && isGl sc x && notStar q && (match rgOf sc q with
    | some pa => matE M sc a pa
    | none => false)
  | sc, .isa c a, .Call (.Name x _) [pa, q] [] _ => decide (x = "isinstance") && isGl sc x && notStar pa && notStar q && isTy sc c q && matE M sc a pa
  | sc, .dlg kvs k d, .Call (.Attribute po x ap) [pk, pd] [] cp => decide (x = "get") && (ap.endLine == cp.line) && notStar pk && notStar pd && (match dictOf po with
    | some (ks, vs) => matKV kvs ks vs && decide (0 < ks.length) && decide (ks.length ≤ 15)
    | none => false) && matE M sc k pk && matE M sc d pd
  | sc, .var i, .Name x _ => isAt M.N i x && isVis sc x && plainN x
  | _, .lit c, .Constant k _ _ => matC c k
  | sc, .tup es, .Tuple ps _ _ => matEs M sc es ps && decide (es.len ≤ 10000)
  | sc, .lst es, .List ps _ => matEs M sc es ps && decide (es.len ≤ 10000)
  | sc, .lstM es, .List ps _ => matEs M sc es ps && decide (es.len ≤ 10000)
  | sc, .lsw es, .List ps _ => matEs M sc es ps && decide (es.len ≤ 10000)
  | sc, .bin o a b, .BinOp pa o' pb _ => decide (o = o') && matE M sc a pa && matE M sc b pb
  | sc, .binM o a b, .BinOp pa o' pb _ => decide (o = o') && matE M sc a pa && matE M sc b pb
  | sc, .neg a, .UnaryOp .USub pa _ => matE M sc a pa
  | sc, .nt a, .UnaryOp .Not pa _ => matE M sc a pa && notIf pa
  | sc, .cmp o a b, .Compare pa [o'] [pb] _ => decide (o = o') && notSet pb && matE M sc a pa && matE M sc b pb
  | sc, .isN a, .Compare pa [.Is] [.Constant .none _ _] _ => matE M sc a pa
  | sc, .isB n k a, .Compare pa [o] [.Constant (.bool k') _ _] _ => decide (o = if n then .IsNot else .Is) && decide (k = k') && matE M sc a pa
  | sc, .notN a, .Compare pa [.IsNot] [.Constant .none _ _] _ => matE M sc a pa
  | sc, .cmp2 o p a b c, .Compare pa [o', p'] [pb, pc] _ => decide (o = o') && decide (p = p') && notSet pb && notSet pc && matE M sc a pa && matE M sc b pb && matE M sc c pc
  | sc, .one a, .BoolOp _ [pa] _ => matE M sc a pa && notIf pa
  | sc, .and a b, .BoolOp .And (pa :: pb :: ps) pos => matE M sc a pa && notIf pa && matE M sc b (.BoolOp .And (pb :: ps) pos)
  | sc, .or a b, .BoolOp .Or (pa :: pb :: ps) pos => matE M sc a pa && notIf pa && matE M sc b (.BoolOp .Or (pb :: ps) pos)
  | sc, .ife c a b, .IfExp pc pa pb _ => matE M sc c pc && notIf pc && matE M sc a pa && matE M sc b pb
  | sc, .idx a i, .Subscript pa pi _ => notSlice pi && matE M sc a pa && matE M sc i pi
  | sc, .slc a lo hi, .Subscript pa (.Slice pl ph none _) _ => matE M sc a pa && matOe M sc lo pl && matOe M sc hi ph
  | sc, .rev a, .Subscript pa (.Slice none none (some (.UnaryOp .USub (.Constant (.int 1) _ _) _)) _) _ => matE M sc a pa
  | sc, .blt f es, .Call (.Name x _) (p :: ps) [] _ => decide (x = f.nm) && isGl sc x && matEs M sc es (p :: ps)
  | sc, .mth f o es, .Call (.Attribute po x ap) (p :: ps) [] cp => f.okM && decide (x = f.nm) && notCall0 po && (ap.endLine == cp.line) && decide (ps.length < 20) && matE M sc o po && matEs M sc es (p :: ps)
  | sc, .sset a, .Call (.Name x _) [.Call (.Name y _) [pa] [] _] [] _ => decide (x = "sorted") && decide (y = "set") && isGl sc x && isGl sc y && notStar pa && matE M sc a pa
  | sc, .call f es, .Call (.Name x _) (p :: ps) [] _ => isAt M.fn f x && isGl sc x && plainN x && matEs M sc es (p :: ps)
  | sc, .call0 f, .Call (.Name x _) [] [] _ => isAt M.fn f x && isGl sc x && plainN x
  | sc, .lc _ t u it c e, .ListComp pe [⟨tg, pi, ifs, a⟩] scope _ => decide (a = 0) && !t.isEmpty && notSet pi && blkC M.N sc scope (ownOf M.N t) && matT M.N (isSto scope) t u tg && matIt M sc it pi && matIfs M (relS scope sc) c ifs && matE M (relS scope sc) e pe
  | _, _, _ => false
def matEs (M : ME) : Scope → Es → List Expr → Bool
  | _, .nil, [] => true
  | sc, .cons e es, p :: ps => notStar p && matE M sc e p && matEs M sc es ps
  | _, _, _ => false
def matOe (M : ME) : Scope → Oe → Option Expr → Bool
  | _, .none, none => true
  | sc, .some e, some p => matE M sc e p
  | _, _, _ => false
def matIfs (M : ME) : Scope → Oe → List Expr → Bool
  | _, .none, [] => true
  | sc, .some e, [p] => matE M sc e p && notIf p
  | _, _, _ => false
def matIt (M : ME) : Scope → It → Expr → Bool
  | sc, .e a, p => matE M sc a p
  | sc, .rg1 a, .Call (.Name x _) [pa] [] _ => decide (x = "range") && isGl sc x && notStar pa && matE M sc a pa
  | sc, .rg2 a b, .Call (.Name x _) [pa, pb] [] _ => decide (x = "range") && isGl sc x && notStar pa && notStar pb && matE M sc a pa && matE M sc b pb
  | sc, .rgd a b, .Call (.Name x _) [pa, pb, pc] [] _ => decide (x = "range") && isM1 pc && isGl sc x && notStar pa && notStar pb && matE M sc a pa && matE M sc b pb
  | _, _, _ => false
end
end Ev

/-! EvE: targets, items, comprehensions. -/
namespace Ev
open PySem PySem.Spec L2

/-! ### slots -/
def sAll : List Nat → List V → L2.St → L2.St
  | i :: is, x :: xs, σ => sAll is xs (σ.set i (some x))
  | _, _, σ => σ
theorem sAll_set {t : List Nat} : ∀ {xs : List V} {σ : L2.St} {i : Nat} {y : Option V}, i ∈ t → xs.length = t.length → sAll t xs (σ.set i y) = sAll t xs σ := by
  induction t with
  | nil => intro xs σ i y h; simp at h
  | cons j js ih =>
    intro xs σ i y h hl
    cases xs with
    | nil => simp at hl
    | cons x xs =>
      simp only [sAll]
      by_cases e : i = j
      · subst e; rw [List.set_set]
      · have hi : i ∈ js := by
          rcases List.mem_cons.mp h with z | z
          · exact absurd z e
          · exact z
        rw [List.set_comm _ _ e]
        exact ih hi (by simpa using hl)
theorem sAll_wipe {t : List Nat} {xs : List V} (hl : xs.length = t.length) : ∀ {vs : List Nat} {σ : L2.St}, (∀ i ∈ vs, i ∈ t) → sAll t xs (wipe σ vs) = sAll t xs σ
  | [], _, _ => rfl
  | v :: vs, σ, h => by
    show sAll t xs ((wipe σ vs).set v none) = _
    rw [sAll_set (h v List.mem_cons_self) hl, sAll_wipe hl fun i hi => h i (List.mem_cons_of_mem _ hi)]
theorem wipe_set {vs : List Nat} : ∀ {σ : L2.St} {i : Nat} {y : Option V}, i ∈ vs → wipe (σ.set i y) vs = wipe σ vs := by
  induction vs with
  | nil => intro σ i y h; simp at h
  | cons v vs ih =>
    intro σ i y h
    show (wipe (σ.set i y) vs).set v none = (wipe σ vs).set v none
    by_cases e : i ∈ vs
    · rw [ih e]
    · have hv : i = v := by
        rcases List.mem_cons.mp h with z | z
        · exact z
        · exact absurd z e
      subst hv
      have comm : ∀ (ws : List Nat) (σ : L2.St), i ∉ ws → wipe (σ.set i y) ws = (wipe σ ws).set i y := by
        intro ws
        induction ws with
        | nil => intro σ _; rfl
        | cons w ws ihw =>
          intro σ hw
          simp only [List.mem_cons, not_or] at hw
          show (wipe (σ.set i y) ws).set w none = ((wipe σ ws).set w none).set i y
          rw [ihw σ hw.2, List.set_comm _ _ hw.1]
      rw [comm vs σ e, List.set_set]
theorem wipe_sAll {vs : List Nat} : ∀ {t : List Nat} {xs : List V} {σ : L2.St}, (∀ i ∈ t, i ∈ vs) → wipe (sAll t xs σ) vs = wipe σ vs
  | [], _, _, _ => by simp only [sAll]
  | _ :: _, [], _, _ => by simp only [sAll]
  | i :: is, x :: xs, σ, h => by
    simp only [sAll]
    rw [wipe_sAll (t := is) fun j hj => h j (List.mem_cons_of_mem _ hj), wipe_set (h i List.mem_cons_self)]
theorem wipe_wipe {vs : List Nat} {σ : L2.St} : wipe (wipe σ vs) vs = wipe σ vs := by
  have : ∀ (us : List Nat) (σ : L2.St), (∀ i ∈ us, i ∈ vs) → wipe (wipe σ us) vs = wipe σ vs := by
    intro us
    induction us with
    | nil => intro σ _; rfl
    | cons u us ih =>
      intro σ h
      show wipe ((wipe σ us).set u none) vs = _
      rw [wipe_set (h u List.mem_cons_self), ih σ fun i hi => h i (List.mem_cons_of_mem _ hi)]
  exact this vs σ fun _ h => h

section
variable [Wd]
section
variable {K : PySem.W.Frag} {xr : XRel} {B : List Nat} {Wx : WX} {m : List Addr} {F H : Hp} {env : Vars} {h : Hq} {σ : L2.St}
theorem SR.setv (s : SR K B m F env h σ H) {i : Nat} {w : W} {x : V} (r : WR K m F x w) : SR K B m F (env.set i (some w)) h (σ.set i (some x)) H := by
  refine ⟨s.hr, by simpa using s.el, fun j u e => ?_⟩
  by_cases hj : j = i
  · subst hj
    have hl : j < env.length := by
      have := (List.getElem?_eq_some_iff.mp e).1
      simpa using this
    rw [List.getElem?_set_self hl] at e
    cases e
    exact ⟨x, by rw [List.getElem?_set_self (Nat.lt_of_lt_of_le hl s.el)], r⟩
  · rw [List.getElem?_set_ne (Ne.symm hj)] at e
    obtain ⟨v, e1, r1⟩ := s.var j u e
    exact ⟨v, by rw [List.getElem?_set_ne (Ne.symm hj)]; exact e1, r1⟩
theorem SR.setAll : ∀ {t : List Nat} {ws : List W} {xs : List V} {env : Vars} {σ : L2.St}, SR K B m F env h σ H → WRs K m F xs ws → SR K B m F (Ev.setAll t ws env) h (sAll t xs σ) H
  | [], _, _, _, _, s, _ => by simp only [Ev.setAll, sAll]; exact s
  | _ :: _, [], _, _, _, s, r => by cases r; simp only [Ev.setAll, sAll]; exact s
  | _ :: _, _ :: _, _, _, _, s, r => by
    cases r with
    | cons r1 r2 => simp only [Ev.setAll, sAll]; exact SR.setAll (s.setv r1) r2
end

/-! ### targets -/
def gNames : List Nat → TGs
  | [] => gNil
  | i :: is => gCons (gName i) (gNames is)
def gT (K : PySem.W.Frag) (t : List Nat) (u : Bool) : TG := match u, t with
  | false, i :: _ => gName i
  | false, [] => fun _ _ _ _ => False
  | true, t => fun v σ H Q => gTup K t.length (gNames t) v σ H Q ∨ gLst K t.length (gNames t) v σ H Q
theorem gNames_ok {t : List Nat} : ∀ {xs : List V} {σ : L2.St} {H : Hp} {Q : L2.St → Hp → Prop}, xs.length = t.length → Q (sAll t xs σ) H → gNames t xs σ H Q := by
  induction t with
  | nil =>
    intro xs σ H Q hl q
    cases xs with
    | nil => exact ⟨rfl, q⟩
    | cons _ _ => simp at hl
  | cons i is ih =>
    intro xs σ H Q hl q
    cases xs with
    | nil => simp at hl
    | cons x xs => exact ⟨x, xs, rfl, ih (by simpa using hl) q⟩
section
variable {K : PySem.W.Frag} {xr : XRel} {B : List Nat} {Wx : WX} {m : List Addr} {F H : Hp} {env env' : Vars} {h : Hq} {σ : L2.St}
/-- a turn's item comes to its slots; vs: slots that are forgotten ahead -/
theorem bind_ok' {t : List Nat} {u : Bool} {w : W} {x : V} {vs : List Nat} {Q : L2.St → Hp → Prop} (e : bindT t u w env = some env') (r : WR K m F x w) (s : SR K B m F env h σ H) (hv : ∀ i ∈ vs, i ∈ t) (hv' : vs = [] ∨ ∀ i ∈ t, i ∈ vs)
    (q : ∀ σ2, SR K B m F env' h σ2 H → (vs ≠ [] → wipe σ2 vs = wipe σ vs) → Q σ2 H) : gT K t u x (wipe σ vs) H Q := by
  have done : ∀ {xs : List V} {t : List Nat}, xs.length = t.length → (∀ i ∈ vs, i ∈ t) → (vs = [] ∨ ∀ i ∈ t, i ∈ vs) → SR K B m F env' h (sAll t xs σ) H → Q (sAll t xs (wipe σ vs)) H := fun {xs t} hl h1 h2 s' => by
    rw [sAll_wipe hl h1]
    refine q _ s' fun hne => ?_
    rcases h2 with h2 | h2
    · exact absurd h2 hne
    · exact wipe_sAll h2
  unfold bindT at e
  split at e
  · split at e
    · rename_i i
      cases e
      exact done (xs := [x]) (t := [i]) rfl hv hv' (s.setv r)
    · cases e
  · split at e
    · rename_i xs
      split at e
      · rename_i hl
        cases e
        obtain ⟨a, us, rfl, sq, d⟩ : ∃ a us, x = .ref a ∧ SqT K F a us ∧ DpAll K F us xs := by
          have r : Dp K F x (.tuple xs) := r
          cases r with
          | tup h1 h2 => exact ⟨_, _, rfl, h1, h2⟩
        have hl' : us.length = t.length := by rw [d.length]; exact hl
        exact .inl ⟨a, us, rfl, s.hr.sub.sqt sq, hl', gNames_ok hl' (done hl' hv hv' (SR.setAll s (WRs.ofD d)))⟩
      · cases e
    · rename_i xs
      split at e
      · rename_i hl
        cases e
        obtain ⟨a, us, rfl, sq, d⟩ : ∃ a us, x = .ref a ∧ SqL K F a us ∧ DpAll K F us xs := by
          have r : Dp K F x (.list xs) := r
          cases r with
          | lst h1 h2 => exact ⟨_, _, rfl, h1, h2⟩
        have hl' : us.length = t.length := by rw [d.length]; exact hl
        exact .inr ⟨a, us, rfl, s.hr.sub.sql sq, hl', gNames_ok hl' (done hl' hv hv' (SR.setAll s (WRs.ofD d)))⟩
      · cases e
    · cases e
end
section
variable {X : Cx}
theorem assign1 {p : Expr} {ps : List Expr} {env : Env} (h : notStar p = true) : assignEach (p :: ps) env = (false, assign p env) :: assignEach ps env := by
  cases p <;> first | rfl | (simp [notStar] at h)
theorem pgs_names {N : List Str} {sto : Str → Bool} (hN : X.N = N) (nd : X.N.Nodup) (hst : ∀ x, sto x = true → Loc X.env.scope x ∧ (X.fn x = true ∨ X.env.scope.names.lookup x = some .local)) :
    ∀ {t : List Nat} {ps : List Expr}, matTs N sto t ps = true → PGs X ps (gNames t) ∧ (assignEach ps X.env).length = t.length ∧ (assignEach ps X.env).findIdx? (·.1) = none := by
  intro t
  induction t with
  | nil =>
    intro ps h
    cases ps with
    | nil => exact ⟨pgs_nil, rfl, rfl⟩
    | cons p ps => simp [matTs] at h
  | cons i is ih =>
    intro ps h
    cases ps with
    | nil => simp [matTs] at h
    | cons p ps =>
      cases p <;> simp only [matTs, Bool.false_eq_true] at h
      case Name x pos =>
        simp only [Bool.and_eq_true, isAt, decide_eq_true_eq] at h
        obtain ⟨⟨h1, h2⟩, h3⟩ := h
        obtain ⟨a, b, c⟩ := ih h3
        obtain ⟨l, f⟩ := hst x h2
        refine ⟨pgs_cons (pg_name nd (by rw [hN]; exact h1) l f) a rfl, ?_, ?_⟩
        · show ((false, assign (.Name x pos) X.env) :: assignEach ps X.env).length = _
          rw [List.length_cons, b]; rfl
        · show ((false, assign (.Name x pos) X.env) :: assignEach ps X.env).findIdx? (·.1) = none
          rw [List.findIdx?_cons]
          simp [c]
theorem pg_either {p : Expr} {t u : TG} (h : PG X p t) (g : PG X p u) : PG X p (fun v σ H Q => t v σ H Q ∨ u v σ H Q) :=
  ⟨fun pins s σ H v x Q I r q => q.elim (h.run pins s σ H v x Q I r) (g.run pins s σ H v x Q I r)⟩
theorem pg_T {N : List Str} {sto : Str → Bool} (hc : X.calm = true) (hN : X.N = N) (nd : X.N.Nodup) (hst : ∀ x, sto x = true → Loc X.env.scope x ∧ (X.fn x = true ∨ X.env.scope.names.lookup x = some .local)) {t : List Nat} {u : Bool} {tg : Expr}
    (h : matT N sto t u tg = true) : PG X tg (gT X.K t u) := by
  unfold matT at h
  split at h
  · rename_i i x pos
    simp only [Bool.and_eq_true, isAt, decide_eq_true_eq] at h
    obtain ⟨l, f⟩ := hst x h.2
    exact pg_name nd (by rw [hN]; exact h.1) l f
  · rename_i ps k pos
    obtain ⟨a, b, c⟩ := pgs_names hN nd hst h
    exact pg_either (pg_tup hc a b c) (pg_lst hc a b c)
  · cases h
end

/-! ### what is walked -/
/-- the place that is walked is as it was -/
def kept (q : Option Nat) (h h' : Hq) : Prop := match q with
  | none => True
  | some n => h'[n]? = h[n]?
theorem kept.refl {q : Option Nat} {h : Hq} : kept q h h := by cases q <;> simp [kept]
theorem kept.trans {q : Option Nat} {h h1 h2 : Hq} (a : kept q h h1) (b : kept q h1 h2) : kept q h h2 := by
  cases q with
  | none => trivial
  | some n => exact (show h2[n]? = h1[n]? from b).trans a
theorem kpt_ok {α : Type} {q : Option Nat} {h h' : Hq} {r : R α} {a : α} (e : kpt q h r = .ok a h') : r = .ok a h' ∧ kept q h h' := by
  cases q with
  | none => exact ⟨e, trivial⟩
  | some n =>
    cases r with
    | ok a1 h1 =>
      simp only [kpt, R.bind] at e
      split at e
      · rename_i hk
        cases e
        exact ⟨rfl, hk⟩
      · cases e
    | ex c ds h1 => cases e
    | bad => cases e
/-- an iterator over just these items, as long as the place that is walked stays -/
def ItOk (K : PySem.W.Frag) (q : Option Nat) (h0 : Hq) (m : List Addr) (F : Hp) (J : L2.It) (ws : List W) : Prop := ∀ (B : List Nat) (i : Nat) (m' : List Addr) (F' : Hp) (h' : Hq) (H' : Hp), MLe m m' → HpLe F F' → HR K B m' F' h' H' → kept q h0 h' →
  (∀ w, ws[i]? = some w → J.go i H' ∧ ∀ x H2, J.yld i H' x H2 → H2 = H' ∧ WR K m' F' x w) ∧ (ws.length ≤ i → J.stop i H')
def tI (K : PySem.W.Frag) (xr : XRel) (B : List Nat) (Wx : WX) (f : Vars → Hq → R (List W × Option Nat)) : TI := fun σ H G => ∃ m F env h, SR K B m F env h σ H ∧
  PostG K xr B Wx m F env σ H (f env h) (fun ws h' m' F' H' => ∀ J, ItOk K ws.2 h' m' F' J ws.1 → ws.1.length ≤ sizeLine → G J H')
section
variable {K : PySem.W.Frag} {m : List Addr} {F : Hp}
variable {h0 : Hq}
theorem it_list {a : Addr} {vs : List V} {ds : List PyData} (sq : SqL K F a vs) (d : DpAll K F vs ds) : ItOk K none h0 m F (Itl K a) (ds.map .d) := by
  intro B i m' F' h' H' ml le r _
  have le' := le.trans r.sub
  refine ⟨fun w e => ?_, fun hl => ⟨vs, le'.sql sq, by rw [d.length]; simpa using hl⟩⟩
  rw [List.getElem?_map] at e
  obtain ⟨x, ex, rfl⟩ := Option.map_eq_some_iff.mp e
  obtain ⟨v, ev, rv⟩ := d.get ex
  refine ⟨⟨vs, v, le'.sql sq, ev⟩, fun y H2 hy => ?_⟩
  obtain ⟨e1, e2⟩ := hy
  have := e2 vs (le'.sql sq)
  rw [ev] at this
  cases this
  exact ⟨e1, dp_mono le _ _ rv⟩
theorem it_tup {a : Addr} {vs : List V} {ds : List PyData} (sq : SqT K F a vs) (d : DpAll K F vs ds) : ItOk K none h0 m F (Itt K a) (ds.map .d) := by
  intro B i m' F' h' H' ml le r _
  have le' := le.trans r.sub
  refine ⟨fun w e => ?_, fun hl => ⟨vs, le'.sqt sq, by rw [d.length]; simpa using hl⟩⟩
  rw [List.getElem?_map] at e
  obtain ⟨x, ex, rfl⟩ := Option.map_eq_some_iff.mp e
  obtain ⟨v, ev, rv⟩ := d.get ex
  refine ⟨⟨vs, v, le'.sqt sq, ev⟩, fun y H2 hy => ?_⟩
  obtain ⟨e1, e2⟩ := hy
  have := e2 vs (le'.sqt sq)
  rw [ev] at this
  cases this
  exact ⟨e1, dp_mono le _ _ rv⟩
theorem it_str {x : Str} : ItOk K none h0 m F (Its x) (x.cps.toList.map fun c => .d (.str ⟨#[c]⟩)) := by
  intro B i m' F' h' H' ml le r _
  refine ⟨fun w e => ?_, fun hl => (show x.cps.size ≤ i by simpa using hl)⟩
  rw [List.getElem?_map] at e
  obtain ⟨c, ex, rfl⟩ := Option.map_eq_some_iff.mp e
  have ex' : x.cps[i]? = some c := by simpa using ex
  obtain ⟨hi, _⟩ := Array.getElem?_eq_some_iff.mp ex'
  refine ⟨hi, fun y H2 hy => ?_⟩
  obtain ⟨e1, c', e2, rfl⟩ := hy
  rw [ex'] at e2
  cases e2
  exact ⟨e1, .str _⟩
/-- a list that may change, as long as it does not -/
theorem it_live {n : Nat} {a : Addr} {ws : List W} (em : m[n]? = some a) (eo : (∃ xs, h0[n]? = some (.lst xs) ∧ ws = xs.map .d) ∨ h0[n]? = some (.lsw ws)) : ItOk K (some n) h0 m F (Itl K a) ws := by
  intro B i m' F' h' H' ml le r hk
  have hk : h'[n]? = h0[n]? := hk
  have em' := ml.get em
  have : ∃ vs, H' a = some (.lst vs) ∧ WRs K m' F' vs ws := by
    rcases eo with ⟨xs, eo, rfl⟩ | eo
    · rw [eo] at hk
      obtain ⟨f, vs, eH, dd⟩ := r.ob n _ a hk em'
      exact ⟨vs, eH, WRs.ofD dd⟩
    · rw [eo] at hk
      obtain ⟨f, vs, eH, dd⟩ := r.ob n _ a hk em'
      exact ⟨vs, eH, dd⟩
  obtain ⟨vs, eH, dd⟩ := this
  refine ⟨fun w e => ?_, fun hl => ⟨vs, .of eH, by rw [dd.length]; exact hl⟩⟩
  obtain ⟨v, ev, rv⟩ := dd.get e
  refine ⟨⟨vs, v, .of eH, ev⟩, fun y H2 hy => ?_⟩
  obtain ⟨e1, e2⟩ := hy
  have := e2 vs (.of eH)
  rw [ev] at this
  cases this
  exact ⟨e1, rv⟩
theorem it_up {lo hi : Int} : ItOk K none h0 m F (Itr lo (hi - lo).toNat) (rangeUp lo hi) := by
  intro B i m' F' h' H' _ _ _ _
  refine ⟨fun w e => ?_, fun hl => by rw [rangeUp, List.length_map, List.length_range] at hl; exact hl⟩
  unfold rangeUp at e
  rw [List.getElem?_map] at e
  obtain ⟨x, ex, rfl⟩ := Option.map_eq_some_iff.mp e
  obtain ⟨hx, ex⟩ := List.getElem?_eq_some_iff.mp ex
  rw [List.length_range] at hx
  rw [List.getElem_range] at ex
  subst ex
  refine ⟨hx, fun y H' hy => ?_⟩
  obtain ⟨e1, e2⟩ := hy
  subst e2
  exact ⟨e1, .int _⟩
theorem it_dn {hi lo : Int} : ItOk K none h0 m F (Itc hi (-1) (hi - lo).toNat) (rangeDn hi lo) := by
  intro B i m' F' h' H' _ _ _ _
  refine ⟨fun w e => ?_, fun hl => by rw [rangeDn, List.length_map, List.length_range] at hl; exact hl⟩
  unfold rangeDn at e
  rw [List.getElem?_map] at e
  obtain ⟨x, ex, rfl⟩ := Option.map_eq_some_iff.mp e
  obtain ⟨hx, ex⟩ := List.getElem?_eq_some_iff.mp ex
  rw [List.length_range] at hx
  rw [List.getElem_range] at ex
  subst ex
  refine ⟨hx, fun y H' hy => ?_⟩
  obtain ⟨e1, e2⟩ := hy
  subst e2
  refine ⟨e1, ?_⟩
  rw [show hi + (i : Int) * -1 = hi - i by omega]
  exact .int _
end
def iSeq (K : PySem.W.Frag) (tl : TE) : TI := fun σ H G => tl σ H fun x H1 => (∃ z, x = .str z ∧ G (Its z) H1) ∨ ∃ a, x = .ref a ∧ (((∃ xs, SqL K H1 a xs) ∧ ((∀ xs, SqL K H1 a xs → xs.length ≤ sizeLine) → G (Itl K a) H1)) ∨ ((∃ xs, SqT K H1 a xs) ∧ ((∀ xs, SqT K H1 a xs → xs.length ≤ sizeLine) → G (Itt K a) H1)))
theorem pi_seq {X : Cx} {tg l : Expr} {tl : TE} (hl : PE X l tl) : PI X tg l (iSeq X.K tl) := by
  refine ⟨fun pins s σ H G I h => ?_⟩
  refine thn (hl.run pins s σ H _ I h) fun v s1 ⟨x, H1, I1, r1, q1⟩ => ?_
  rcases q1 with ⟨z, ez, q⟩ | ⟨a, e, q⟩
  · subst ez
    obtain ⟨t, rfl⟩ := r1
    cases ha : z.cps.all (· < 128)
    · exact wpAny_pyIter_wide ha (pi_one (tk := s1.toks) I1 _ (turn_str _ z t "str_iterator" (.inr rfl)) ⟨_, Heap.get?_push_size _ rfl, rfl, rfl⟩ q)
    · exact wpAny_pyIter_ascii ha (pi_one (tk := s1.toks) I1 _ (turn_str _ z t "str_ascii_iterator" (.inl rfl)) ⟨_, Heap.get?_push_size _ rfl, rfl, rfl⟩ q)
  subst e
  cases r1
  rcases q with ⟨⟨xs, hq⟩, q⟩ | ⟨⟨xs, hq⟩, q⟩
  · obtain ⟨its, rv, p, hz⟩ := I1.list hq
    refine wpAny_pyIter_list p.isList ?_
    refine ⟨s1.heap.objs.size, [s1.heap.objs.size], _, _, H1, rfl, I1.kept (t' := s1.toks) fun b o e => Heap.get?_push_of_some _ e, turn_list a _, ⟨_, Heap.get?_push_size _ rfl, rfl, rfl⟩, fun b hb => ?_, q fun ys hy => (I1.list hy).elim fun _ z => z.2.2⟩
    have e : b = s1.heap.objs.size := by simpa using hb
    subst e
    exact I1.fpOk (Nat.le_refl _) (I1.hok.fresh (Nat.le_refl _))
  · obtain ⟨its, rv, p, hz⟩ := I1.tuple hq
    refine wpAny_pyIter_tuple (show s1.heap.IsTuple a its.toArray from p) ?_
    refine ⟨s1.heap.objs.size, [s1.heap.objs.size], _, _, H1, rfl, I1.kept (t' := s1.toks) fun b o e => Heap.get?_push_of_some _ e, turn_tuple a _, ⟨_, Heap.get?_push_size _ rfl, rfl, rfl⟩, fun b hb => ?_, q fun ys hy => (I1.tuple hy).elim fun _ z => z.2.2⟩
    have e : b = s1.heap.objs.size := by simpa using hb
    subst e
    exact I1.fpOk (Nat.le_refl _) (I1.hok.fresh (Nat.le_refl _))
end
end Ev
namespace L2
open PySem PySem.Spec
theorem PI.weak {X : Cx} {tg it : Expr} {t t' : TI} (h : PI X tg it t) (i : ∀ σ H G, t' σ H G → t σ H G) : PI X tg it t' := ⟨fun pins s σ H G I q => h.run pins s σ H G I (i σ H G q)⟩
theorem PE.weak {X : Cx} {e : Expr} {t t' : TE} (h : PE X e t) (i : ∀ σ H Q, t' σ H Q → t σ H Q) : PE X e t' := ⟨fun pins s σ H Q I q => h.run pins s σ H Q I (i σ H Q q)⟩
theorem PT.weak {X : Cx} {e : Expr} {t t' : TT} (h : PT X e t) (i : ∀ σ H Q, t' σ H Q → t σ H Q) : PT X e t' := ⟨fun pins s σ H Q I q => h.run pins s σ H Q I (i σ H Q q)⟩
theorem PW.weak {X : Cx} {e : Expr} {t t' : TT} (h : PW X e t) (i : ∀ σ H Q, t' σ H Q → t σ H Q) : PW X e t' := ⟨fun w pins s σ H Q I q => h.run w pins s σ H Q I (i σ H Q q)⟩
theorem PS.weak {X : Cx} {e : Stmt} {t t' : TS} (h : PS X e t) (i : ∀ D σ H, t' D σ H → t D σ H) : PS X e t' := ⟨fun pins s σ H D I q => h.run pins s σ H D I (i D σ H q)⟩
theorem PSs.weak {X : Cx} {e : List Stmt} {t t' : TS} (h : PSs X e t) (i : ∀ D σ H, t' D σ H → t D σ H) : PSs X e t' := ⟨fun pins s σ H D I q => h.run pins s σ H D I (i D σ H q)⟩
theorem PTs.weak {X : Cx} {e : List Expr} {t t' : TT} (h : PTs X e t) (i : ∀ σ H Q, t' σ H Q → t σ H Q) : PTs X e t' := ⟨fun pins s σ H Q I q => h.run pins s σ H Q I (i σ H Q q)⟩
theorem PA.weak {X : Cx} {e : List Expr} {t t' : TA} (h : PA X e t) (i : ∀ σ H Q, t' σ H Q → t σ H Q) : PA X e t' := ⟨fun pos pins s σ H Q I q => h.run pos pins s σ H Q I (i σ H Q q)⟩
end L2

/-! EvF: comprehensions, by the list that they make. -/
namespace Ev
open PySem PySem.Spec L2

section
variable [Wd]
abbrev WF : WX := fun _ _ _ _ => False
def lcF (fc : Vars → Hq → R (Option W)) (fe : Vars → Hq → R W) (t : List Nat) (u : Bool) (env : Vars) : W → Hq → R (Option W) := fun w h => match bindT t u w env with
  | some env => (fc env h).bind fun q h => match boolO q with
    | some true => (fe env h).bind fun r h => .ok (some r) h
    | some false => .ok none h
    | none => .bad
  | none => .bad
def tO (K : PySem.W.Frag) (xr : XRel) (B : List Nat) (Wx : WX) (fc : Vars → Hq → R (Option W)) : TT := fun σ H Q => ∃ m F env h, SR K B m F env h σ H ∧ PostG K xr B Wx m F env σ H (fc env h) (fun q _ _ _ H' => ∃ k, boolO q = some k ∧ Q k H')

theorem lcF_ok {fc : Vars → Hq → R (Option W)} {fe : Vars → Hq → R W} {t : List Nat} {u : Bool} {env : Vars} {w : W} {h h' : Hq} {o : Option W} (e : lcF fc fe t u env w h = .ok o h') :
    ∃ env2 q h1, bindT t u w env = some env2 ∧ fc env2 h = .ok q h1 ∧ ((∃ r, boolO q = some true ∧ fe env2 h1 = .ok r h' ∧ o = some r) ∨ (boolO q = some false ∧ o = none ∧ h' = h1)) := by
  unfold lcF at e
  split at e
  · rename_i env2 hb
    cases hc : fc env2 h with
    | ok q h1 =>
      rw [hc] at e
      simp only [R.bind] at e
      refine ⟨env2, q, h1, hb, hc, ?_⟩
      split at e
      · rename_i hq
        cases he : fe env2 h1 with
        | ok r h2 =>
          rw [he] at e
          simp only [R.bind, R.ok.injEq] at e
          exact .inl ⟨r, hq, by rw [e.2], e.1.symm⟩
        | ex _ _ _ => rw [he] at e; simp [R.bind] at e
        | bad => rw [he] at e; simp [R.bind] at e
      · rename_i hq
        simp only [R.ok.injEq] at e
        exact .inr ⟨hq, e.1.symm, e.2.symm⟩
      · cases e
    | ex _ _ _ => rw [hc] at e; simp [R.bind] at e
    | bad => rw [hc] at e; simp [R.bind] at e
  · cases e
theorem lcGo_cons {f : W → Hq → R (Option W)} {w : W} {ws rs : List W} {h hz : Hq} (e : lcGo f (w :: ws) h = .ok rs hz) : ∃ o h' rs', f w h = .ok o h' ∧ lcGo f ws h' = .ok rs' hz ∧ rs = o.toList ++ rs' := by
  unfold lcGo at e
  cases hf : f w h with
  | ok o h' =>
    rw [hf] at e
    simp only [R.bind] at e
    cases hg : lcGo f ws h' with
    | ok rs' h2 =>
      rw [hg] at e
      simp only at e
      cases o with
      | some r => simp only [R.ok.injEq] at e; exact ⟨some r, h', rs', rfl, by rw [hg, e.2], e.1.symm⟩
      | none => simp only [R.ok.injEq] at e; exact ⟨none, h', rs', rfl, by rw [hg, e.2], e.1.symm⟩
    | ex _ _ _ => rw [hg] at e; simp at e
    | bad => rw [hg] at e; simp at e
  | ex _ _ _ => rw [hf] at e; simp [R.bind] at e
  | bad => rw [hf] at e; simp [R.bind] at e

section
variable {K : PySem.W.Frag} {xr : XRel} {B : List Nat} {Wx : WX} {m m1 : List Addr} {F F1 H H1 : Hp} {env : Vars} {h : Hq} {σ : L2.St} {Q : VK} {D : Addr}
theorem HR.adopt (r : HR K B m F h H) {u : HO} (fp : F D = none) (mp : D ∉ m) (e : H D = some u) : HR K B m (upd F D u) h H := by
  refine ⟨r.len, r.nd, fun n o a eo ea => ?_, fun b o eb => ?_, r.there, r.clo⟩
  · have hap : a ≠ D := fun z => mp (z ▸ List.mem_of_getElem? ea)
    exact or_mono (.refl _) (.upd fp) (fun f => by rw [upd_ne hap]; exact f) (fun u e _ => e) (r.ob n o a eo ea)
  · by_cases hb : b = D
    · subst hb; rw [upd_same] at eb; cases eb; exact e
    · rw [upd_ne hb] at eb; exact r.sub b o eb
theorem HR.adoptL (r : HR K B m F h H) {o : Ob} (fp : F D = none) (mp : D ∉ m) (hD : H D ≠ none) (ho : OR K (m ++ [D]) F H D o) : HR K B (m ++ [D]) F (h ++ [o]) H := by
  have ml : MLe m (m ++ [D]) := ⟨[D], rfl⟩
  refine ⟨by simp [r.len], ?_, fun n q a e ea => ?_, r.sub, fun b hb => ?_, fun c hc => ?_⟩
  · rw [List.nodup_append]
    refine ⟨r.nd, by simp, fun a ha b hb => ?_⟩
    have : b = D := by simpa using hb
    subst this
    exact fun z => mp (z ▸ ha)
  · rcases getElem?_snoc e with ⟨hn, e⟩ | ⟨hn, rfl⟩
    · rw [List.getElem?_append_left (by rw [r.len]; exact hn)] at ea
      exact or_mono ml (.refl _) id (fun u e _ => e) (r.ob n q a e ea)
    · rw [hn, ← r.len] at ea
      simp at ea
      subst ea; exact ho
  · rcases List.mem_append.mp hb with hb | hb
    · exact r.there b hb
    · have : b = D := by simpa using hb
      subst this; exact hD
  · obtain ⟨h1, h2⟩ := r.clo c hc
    refine ⟨by simp; omega, fun n q k hn e hk => ?_⟩
    rw [List.getElem?_append_left (by omega)] at e
    exact h2 n q k hn e hk
/-- the list that a comprehension made -/
theorem lc_end {k : Nat} {rs : List W} {acc : List V} (p : PostG K xr B Wx m1 F1 env σ H1 (lcEnd k rs h) (PV K Q)) (x : Ext m1 F1 H1 m F H) (hD1 : H1 D = none) (s : SR K B m F env h σ H) (fp : F D = none) (mp : D ∉ m) (e : H D = some (.lst acc))
    (r : WRs K m F acc rs) : Q (.ref D) H := by
  have le : HpLe F (upd F D (.lst acc)) := .upd fp
  have frz : ∀ {ds : List PyData}, allD rs = some ds → PostG K xr B Wx m1 F1 env σ H1 (.ok (.d (.list ds)) h) (PV K Q) → Q (.ref D) H := fun {ds} ha p => by
    have x' : Ext m1 F1 H1 m (upd F D (.lst acc)) H := ⟨x.ml, x.sub.trans le, x.frm, x.new, fun a ha hf hh => by
      rw [upd_ne (show a ≠ D from fun z => hh (z ▸ hD1))]; exact x.frf a ha hf hh⟩
    refine p _ _ _ x' ⟨s.hr.adopt fp mp e, s.el, fun i w q => ?_⟩ _ (.lst sq_new (dps_mono le _ _ (r.toD ha)))
    obtain ⟨v, h1, h2⟩ := s.var i w q
    exact ⟨v, h1, wr_mono (.refl _) le h2⟩
  have mk : ∀ {o : Ob}, OR K (m ++ [D]) F H D o → PostG K xr B Wx m1 F1 env σ H1 (.ok (.l h.length) (h ++ [o])) (PV K Q) → Q (.ref D) H := fun {o} ho p => by
    have ml : MLe m (m ++ [D]) := ⟨[D], rfl⟩
    have x' : Ext m1 F1 H1 (m ++ [D]) F H := ⟨x.ml.trans ml, x.sub, x.frm, fun a ha hn => by
      rcases List.mem_append.mp ha with ha | ha
      · exact x.new a ha hn
      · have : a = D := by simpa using ha
        subst this; exact hD1, x.frf⟩
    refine p _ _ _ x' ⟨s.hr.adoptL fp mp (by rw [e]; simp) ho, s.el, fun i w q => ?_⟩ _ ⟨D, by rw [← s.hr.len]; simp, rfl⟩
    obtain ⟨v, h1, h2⟩ := s.var i w q
    exact ⟨v, h1, wr_mono ml (.refl _) h2⟩
  unfold lcEnd at p
  split at p
  · split at p
    · rename_i ds ha
      exact frz ha p
    · exact p.elim
  · split at p
    · rename_i ds ha
      exact mk (o := .lst ds) ⟨fp, acc, e, r.toD ha⟩ p
    · exact p.elim
  · exact mk (o := .lsw rs) ⟨fp, acc, e, wrs_mono ⟨[D], rfl⟩ (.refl _) r⟩ p

theorem SR.other (s : SR K B m F env h σ H) {u : HO} (fp : F D = none) (mp : D ∉ m) : SR K B m F env h σ (upd H D u) := ⟨s.hr.other fp mp, s.el, s.var⟩

/-- THE READING of a comprehension -/
theorem lc_read {fit : Vars → Hq → R (List W × Option Nat)} {fc : Vars → Hq → R (Option W)} {fe : Vars → Hq → R W} {k : Nat} {t : List Nat} {u : Bool} (ht : t ≠ [])
    (p : tE K xr B Wx (fun env h => (fit env h).bind fun ws h => (noEx (lcGo (fun w h => kpt ws.2 h (lcF fc fe t u env w h)) ws.1 h)).bind fun rs h => lcEnd k rs h) σ H Q) :
    tLc (tI K xr B Wx fit) (gT K t u) (tO K xr B WF fc) (tE K xr B WF fe) t σ H Q := by
  obtain ⟨m0, F0, env, h0, S0, p⟩ := p
  refine ⟨m0, F0, env, h0, S0, p.bind.mono fun wq h1 m1 F1 H1 x1 S1 p J hJ hwl D hD => ?_⟩
  obtain ⟨ws, qq⟩ := wq
  simp only at p hJ hwl
  -- the whole loop ends
  cases hgo : lcGo (fun w h => kpt qq h (lcF fc fe t u env w h)) ws h1 with
  | ex c ds hx => rw [hgo] at p; exact p.elim
  | bad => rw [hgo] at p; exact p.elim
  | ok rest hz =>
  rw [hgo] at p
  have p : PostG K xr B Wx m1 F1 env σ H1 (lcEnd k rest hz) (PV K Q) := p
  have fD1 := S1.hr.freeF hD
  have mD1 := S1.hr.freeM hD
  refine ⟨fun i j H => j = ws.length - i ∧ i ≤ ws.length ∧ ∃ m F h acc rs rs', Ext m1 F1 H1 m F H ∧ SR K B m F env h σ H ∧ F D = none ∧ D ∉ m ∧ H D = some (.lst acc) ∧ WRs K m F acc rs ∧ acc.length ≤ i ∧ kept qq h1 h ∧ lcGo (fun w h => kpt qq h (lcF fc fe t u env w h)) (ws.drop i) h = .ok rs' hz ∧ rest = rs ++ rs', ⟨ws.length, by simp, Nat.zero_le _, m1, F1, h1, [], [], rest, ?_, S1.other fD1 mD1, fD1, mD1, upd_same, .nil, Nat.le_refl _, .refl, hgo, rfl⟩, ?_⟩
  · exact ⟨.refl _, .refl _, fun a o e _ => by rw [upd_ne (ne_of_none e hD)]; exact e, fun _ a b => absurd a b, fun _ _ f _ => f⟩
  rintro i j H ⟨rfl, hi, m, F, h, acc, rs, rs', x, S, fD, mD, eD, r, hacc, hkp, hg, er⟩
  obtain ⟨it1, it2⟩ := hJ B i m F h H x.ml x.sub S.hr hkp
  by_cases hlt : i < ws.length
  · have ed : ws.drop i = ws[i] :: ws.drop (i + 1) := List.drop_eq_getElem_cons hlt
    rw [ed] at hg
    obtain ⟨o, h', rs2, hf, hg2, ers⟩ := lcGo_cons hg
    obtain ⟨hf, hkt⟩ := kpt_ok hf
    obtain ⟨env2, q, hq1, hb, hc, alt⟩ := lcF_ok hf
    obtain ⟨go, yl⟩ := it1 ws[i] (by simp [hlt])
    refine .inr ⟨go, fun H' => ∃ j', j' < ws.length - i ∧ j' = ws.length - (i + 1) ∧ i + 1 ≤ ws.length ∧ ∃ m F h acc rs rs', Ext m1 F1 H1 m F H' ∧ SR K B m F env h σ H' ∧ F D = none ∧ D ∉ m ∧ H' D = some (.lst acc) ∧ WRs K m F acc rs ∧ acc.length ≤ i + 1 ∧
      kept qq h1 h ∧ lcGo (fun w h => kpt qq h (lcF fc fe t u env w h)) (ws.drop (i + 1)) h = .ok rs' hz ∧ rest = rs ++ rs', fun H' n => ?_, fun y H' hy => ?_⟩
    · obtain ⟨j', a, b, c, d⟩ := n
      exact ⟨j', a, b, c, d⟩
    obtain ⟨eH, ry⟩ := yl y H' hy
    subst eH
    -- the target
    refine bind_ok' (K := K) (B := B) (m := m) (F := F) (h := h) (env := env) (vs := t) hb ry S (fun _ z => z) (.inr fun _ z => z) fun σ2 S2 hw => ⟨hw ht, ?_⟩
    -- the test
    refine ⟨m, F, env2, h, S2, ?_⟩
    show PostG K xr B WF m F env2 σ2 H' (fc env2 h) _
    rw [hc]
    intro m3 F3 H3 x3 S3
    have HD : H' D ≠ none := by rw [eD]; simp
    have nD : ∀ {m4 : List Addr} {F4 H4 : Hp}, Ext m F H' m4 F4 H4 → F4 D = none ∧ D ∉ m4 ∧ H4 D = some (.lst acc) := fun {m4 F4 H4} x4 =>
      ⟨x4.frf D mD fD HD, fun z => HD (x4.new D z mD), x4.frm D _ eD mD⟩
    have back : ∀ {m4 : List Addr} {F4 H4 : Hp} {h4 : Hq}, Ext m F H' m4 F4 H4 → SR K B m4 F4 env2 h4 σ2 H4 → SR K B m4 F4 env h4 σ H4 := fun {m4 F4 H4 h4} x4 S4 => S.ext S4.hr x4
    rcases alt with ⟨y, hk, hee, rfl⟩ | ⟨hk, rfl, rfl⟩
    · refine ⟨true, hk, iteT ⟨m3, F3, env2, hq1, S3, ?_⟩⟩
      show PostG K xr B WF m3 F3 env2 σ2 H3 (fe env2 hq1) _
      rw [hee]
      intro m4 F4 H4 x4 S4 z rz
      have x34 := x3.trans x4
      obtain ⟨f4, n4, e4⟩ := nD x34
      have S5 := back x34 S4
      refine ⟨acc, e4, by omega, ws.length - (i + 1), by omega, rfl, hlt, m4, F4, h', acc ++ [z], rs ++ [y], rs2, ?_, S5.other f4 n4, f4, n4, upd_same, (wrs_mono x34.ml x34.sub r).app (.cons rz .nil), by simp; omega, hkp.trans hkt, hg2, ?_⟩
      · have x5 := x.trans x34
        refine ⟨x5.ml, x5.sub, fun a o e hn => ?_, x5.new, x5.frf⟩
        rw [upd_ne (ne_of_none e hD)]; exact x5.frm a o e hn
      · rw [er, ers]; simp
    · obtain ⟨f4, n4, e4⟩ := nD x3
      refine ⟨false, hk, iteF ⟨ws.length - (i + 1), by omega, rfl, hlt, m3, F3, h', acc, rs, rs2, x.trans x3, back x3 S3, f4, n4, e4, wrs_mono x3.ml x3.sub r, by omega, hkp.trans hkt, hg2, by rw [er, ers]; simp⟩⟩
  · have ei : i = ws.length := by omega
    subst ei
    rw [List.drop_length] at hg
    simp only [lcGo, R.ok.injEq] at hg
    obtain ⟨rfl, rfl⟩ := hg
    rw [er, List.append_nil] at p
    exact .inl ⟨it2 (Nat.le_refl _), lc_end p x hD S fD mD eD r⟩
end
end
end Ev

/-! EvG: subscripts, slices, built-in functions and methods, calls. -/
namespace Ev
open PySem PySem.Spec L2

section
variable {X : Cx} {xr : XRel} {B : List Nat} {Wx : WX} [Wd]
theorem atZ_get {xs : List PyData} {vs : List V} {F : Hp} {k : Int} {d : PyData} (h : DpAll X.K F vs xs) (e : atZ xs k = some d) : ∃ v, L2.atI vs k = some v ∧ Dp X.K F v d := by
  unfold atZ L2.atI at e
  unfold L2.atI
  rw [h.length]
  cases hi : L2.ixN xs.length k with
  | none => rw [hi] at e; cases e
  | some j =>
    rw [hi] at e
    obtain ⟨v, h1, h2⟩ := h.get (show xs[j]? = some d from e)
    exact ⟨v, h1, h2⟩
theorem atZ_getW {ws : List W} {vs : List V} {m : List Addr} {F : Hp} {k : Int} {w : W} (h : WRs X.K m F vs ws) (e : atZ ws k = some w) : ∃ v, L2.atI vs k = some v ∧ WR X.K m F v w := by
  unfold atZ L2.atI at e
  unfold L2.atI
  rw [h.length]
  cases hi : L2.ixN ws.length k with
  | none => rw [hi] at e; cases e
  | some j =>
    rw [hi] at e
    obtain ⟨v, h1, h2⟩ := h.get (show ws[j]? = some w from e)
    exact ⟨v, h1, h2⟩
theorem liftO_cases {m : List Addr} {F H : Hp} {env : Vars} {h : Hq} {σ : L2.St} {Q : VK} {o : Option PyData} (p : PostE X.K xr B Wx m F env σ H (liftO o h) Q) : ∃ d, o = some d ∧ PostE X.K xr B Wx m F env σ H (.ok (.d d) h) Q := by
  cases o with
  | none => exact p.elim
  | some d => exact ⟨d, rfl, p⟩
theorem ix_E (hw : X.w = Wd.w) (hu : X.A.units + 200 < cLine) : IxR X (rOp X.K xr B Wx (fun a i h => evIdx h a i)) := by
  intro value slice pins s σ H x y v u Q I rx ry hq hs
  obtain ⟨m, F, env, h, σ', w1, w2, S, r1, r2, p⟩ := hq
  have int : ∀ {k : Int}, w2 = .d (.int k) → y = .int k := fun {k} e => by
    subst e
    have r2 : Dp X.K F y (.int k) := r2
    cases r2; rfl
  simp only [evIdx] at p
  split at p
  · rename_i xs k
    cases int rfl
    obtain ⟨d, e, p⟩ := liftO_cases p
    obtain ⟨a, vs, rfl, sq, dd⟩ : ∃ a vs, x = .ref a ∧ SqL X.K F a vs ∧ DpAll X.K F vs xs := by
      have r1 : Dp X.K F x (.list xs) := r1
      cases r1 with
      | lst h1 h2 => exact ⟨_, _, rfl, h1, h2⟩
    obtain ⟨z, hz, rz⟩ := atZ_get dd e
    exact ix_list value slice pins s σ H _ _ v u Q I rx ry ⟨a, vs, k, z, rfl, rfl, S.hr.sub.sql sq, hz, PostE.now p S rz⟩ hs
  · rename_i xs k
    cases int rfl
    obtain ⟨d, e, p⟩ := liftO_cases p
    obtain ⟨a, vs, rfl, sq, dd⟩ : ∃ a vs, x = .ref a ∧ SqT X.K F a vs ∧ DpAll X.K F vs xs := by
      have r1 : Dp X.K F x (.tuple xs) := r1
      cases r1 with
      | tup h1 h2 => exact ⟨_, _, rfl, h1, h2⟩
    obtain ⟨z, hz, rz⟩ := atZ_get dd e
    exact ix_tup value slice pins s σ H _ _ v u Q I rx ry ⟨a, vs, k, z, rfl, rfl, S.hr.sub.sqt sq, hz, PostE.now p S rz⟩ hs
  · rename_i z k
    cases int rfl
    obtain rfl : x = .str z := by
      have r1 : Dp X.K F x (.str z) := r1
      cases r1; rfl
    split at p
    · rename_i hl
      split at p
      · rename_i c e
        exact ix_str value slice pins s σ H _ _ v u Q I rx ry ⟨z, k, c, rfl, rfl, by rw [← sz_eq]; exact hl, e, PostE.now p S (.str _)⟩ hs
      · exact p.elim
    · exact p.elim
  · rename_i n k
    cases int rfl
    obtain ⟨a, em, rfl⟩ := r1
    split at p
    · rename_i xs eo
      obtain ⟨f, vs, eH, dd⟩ := S.hr.ob n _ a eo em
      obtain ⟨d, e, p⟩ := liftO_cases p
      obtain ⟨z, hz, rz⟩ := atZ_get dd e
      exact ix_list value slice pins s σ H _ _ v u Q I rx ry ⟨a, vs, k, z, rfl, rfl, .of eH, hz, PostE.now p S rz⟩ hs
    · rename_i ws eo
      obtain ⟨f, vs, eH, dd⟩ := S.hr.ob n _ a eo em
      split at p
      · rename_i w e
        obtain ⟨z, hz, rz⟩ := atZ_getW dd e
        exact ix_list value slice pins s σ H _ _ v u Q I rx ry ⟨a, vs, k, z, rfl, rfl, .of eH, hz, PostE.now p S rz⟩ hs
      · exact p.elim
    · rename_i kvs eo
      obtain ⟨f, vs, eH, di, hl⟩ := S.hr.ob n _ a eo em
      obtain ⟨d, e, p⟩ := liftO_cases p
      have g := di.get k
      rw [e] at g
      obtain ⟨z, e1, dz⟩ := g
      cases rx
      have dg : DGet H a (.int k) (some z) := e1 ▸ DGet.k (k := .inl k) eH
      exact PyProof.Rows.tail_any (dict_typeIs I dg) PySem.F.slot_dict_getitem.lookup (d_getItem (by show X.A.units + 1 < cLine; omega) I dg ry fun w' s' I' rz => ⟨z, H, I', rz, PostE.now p S dz⟩) hs
    · exact p.elim
  · rename_i n k _
    obtain ⟨a, em, rfl⟩ := r1
    split at p
    · rename_i kvs eo
      obtain ⟨fa, es, eH, dk, nd, hz, hl⟩ := S.hr.ob n _ a eo em
      split at p
      · rename_i hk
        obtain ⟨xs, nk, rfl, ek, hd⟩ := isKey_ok hk
        have r2 : Dp X.K F y (.tuple xs) := r2
        have r2' := r2
        obtain ⟨d, e, p⟩ := liftO_cases p
        cases r2 with
        | tup h1 h2 =>
          cases rx
          cases ry
          have dd := dk_of hw I S.hr.sub eH dk nd
          have g := dk.get ek
          rw [e] at g
          obtain ⟨pv, z, e1, rz, dz⟩ := g
          exact PyProof.Rows.tail_any dd.typeIs PySem.F.slot_dict_getitem.lookup (wpAny_getItem_heap (dk_room hu) (dk_is I S.hr.sub ek hd r2') dd e1 ⟨z, H, I.tok _, rz, PostE.now p S dz⟩) hs
      · exact p.elim
    · exact p.elim
  · exact p.elim

theorem cut_len {α : Type} (xs : List α) (lo hi : Option Int) : (cutL xs lo hi).length ≤ xs.length := by
  unfold cutL; rw [List.length_take, List.length_drop]; omega
theorem cut_dp {F : Hp} {vs : List V} {ds : List PyData} (h : DpAll X.K F vs ds) (lo hi : Option Int) : DpAll X.K F (cutV vs lo hi) (cutL ds lo hi) := by
  unfold cutV cutL
  rw [h.length]
  exact (h.drop _).take _
theorem cut_all {α : Type} {xs : List α} {lo hi : Option Int} (h1 : HT.sIx xs.length 0 lo = 0) (h2 : HT.sIx xs.length xs.length hi = xs.length) : cutL xs lo hi = xs := by
  unfold cutL
  rw [h1, h2]
  simp
/-- the reading of a slice -/
def rSlE (K : PySem.W.Frag) (xr : XRel) (B : List Nat) (Wx : WX) : V → Option Int → Option Int → Hp → VK → Prop := fun x lo hi H Q => ∃ m F env h σ w, SR K B m F env h σ H ∧ WR K m F x w ∧
  PostE K xr B Wx m F env σ H (evSlc h w lo hi) Q
theorem sl_E : SlR X (rSlE X.K xr B Wx) := by
  intro pins s σ H x v vl vu lo hi sl Q I rx hs pl pu hq
  obtain ⟨m, F, env, h, σ', w, S, r, p⟩ := hq
  simp only [evSlc] at p
  split at p
  · rename_i xs e
    obtain ⟨a, vs, rfl, sq, dd⟩ := (now_of S.hr r e).list S.hr.sub
    exact sl_list pins s σ H _ v vl vu lo hi sl Q I rx hs pl pu ⟨a, vs, rfl, sq, fun q hq => PostE.newF p S hq (dp_newL S.hr hq (cut_dp dd lo hi))⟩
  · rename_i xs e
    obtain ⟨a, vs, rfl, sq, dd, dx⟩ := (now_of S.hr r e).tuple S.hr.sub
    refine sl_tupA pins s σ H _ v vl vu lo hi sl Q I rx hs pl pu ⟨a, vs, rfl, sq, fun hw => PostE.now p S ?_, fun _ q hq => PostE.newF p S hq (dp_newT S.hr hq (cut_dp dd lo hi))⟩
    rw [dd.length] at hw
    show Dp X.K F _ (.tuple (cutL xs lo hi))
    rw [cut_all hw.1 hw.2]
    exact dx
  · exact p.elim
/-- the reading of a built-in's call -/
def rB (K : PySem.W.Frag) (xr : XRel) (B : List Nat) (Wx : WX) (f : List W → Hq → R W) : List V → Hp → VK → Prop := fun xs H Q => ∃ m F env h σ ws, SR K B m F env h σ H ∧ WRs K m F xs ws ∧ PostE K xr B Wx m F env σ H (f ws h) Q

theorem one_of {m : List Addr} {F : Hp} {xs : List V} {w : W} (h : WRs X.K m F xs [w]) : ∃ v, xs = [v] ∧ WR X.K m F v w := by
  cases h with
  | cons h1 h2 => cases h2; exact ⟨_, rfl, h1⟩
theorem cr_len : CallR X (.builtin "len") (rB X.K xr B Wx (evB .len)) := by
  intro pins s σ H xs us Q I rs hq
  obtain ⟨m, F, env, h, σ', ws, S, r, p⟩ := hq
  match ws, r, p with
  | [w], r, p =>
    obtain ⟨v, rfl, r'⟩ := one_of r
    simp only [evB] at p
    split at p
    · rename_i n e
      have q : Q (.int n) H := PostE.now p S (.int _)
      cases w with
      | d x =>
        cases x <;> simp only [evLen, reduceCtorEq] at e
        case list ds =>
          cases e
          obtain ⟨a, vs, rfl, sq, dd⟩ : ∃ a vs, v = .ref a ∧ SqL X.K F a vs ∧ DpAll X.K F vs ds := by
            have r'' : Dp X.K F v (.list ds) := r'
            cases r'' with
            | lst h1 h2 => exact ⟨_, _, rfl, h1, h2⟩
          refine call_len_seq pins s σ H _ us Q I rs ⟨a, vs, rfl, .inl (S.hr.sub.sql sq), ?_⟩
          rw [dd.length]; exact q
        case tuple ds =>
          cases e
          obtain ⟨a, vs, rfl, sq, dd⟩ : ∃ a vs, v = .ref a ∧ SqT X.K F a vs ∧ DpAll X.K F vs ds := by
            have r'' : Dp X.K F v (.tuple ds) := r'
            cases r'' with
            | tup h1 h2 => exact ⟨_, _, rfl, h1, h2⟩
          refine call_len_seq pins s σ H _ us Q I rs ⟨a, vs, rfl, .inr (S.hr.sub.sqt sq), ?_⟩
          rw [dd.length]; exact q
        case str z =>
          split at e
          · rename_i hz
            cases e
            obtain rfl : v = .str z := by
              have r'' : Dp X.K F v (.str z) := r'
              cases r''; rfl
            exact call_len_str pins s σ H _ us Q I rs ⟨z, rfl, by rw [← sz_eq]; exact hz, q⟩
          · cases e
      | l k =>
        obtain ⟨a, em, rfl⟩ := r'
        simp only [evLen] at e
        split at e
        · rename_i xs eo
          cases e
          obtain ⟨f, vs, eH, dd⟩ := S.hr.ob k _ a eo em
          refine call_len_seq pins s σ H _ us Q I rs ⟨a, vs, rfl, .inl (.of eH), ?_⟩
          rw [dd.length]; exact q
        · rename_i xs eo
          cases e
          obtain ⟨f, vs, eH, dd⟩ := S.hr.ob k _ a eo em
          refine call_len_seq pins s σ H _ us Q I rs ⟨a, vs, rfl, .inl (.of eH), ?_⟩
          rw [dd.length]; exact q
        · cases e
    · exact p.elim
  | [], _, p => exact p.elim
  | _ :: _ :: _, _, p => exact p.elim
theorem cr_tuple : CallR X (.type "tuple") (rB X.K xr B Wx (evB .tuple)) := by
  intro pins s σ H xs us Q I rs hq
  obtain ⟨m, F, env, h, σ', ws, S, r, p⟩ := hq
  match ws, r, p with
  | [w], r, p =>
    obtain ⟨v, rfl, r'⟩ := one_of r
    simp only [evB] at p
    obtain ⟨d, e, p⟩ := liftO_cases p
    rw [Option.map_eq_some_iff] at e
    obtain ⟨xs, e, rfl⟩ := e
    rw [Option.bind_eq_some_iff] at e
    obtain ⟨dx, e1, e2⟩ := e
    cases dx <;> simp only [seqOf, reduceCtorEq] at e2
    case list ds =>
      cases e2
      obtain ⟨a, vs, rfl, sq, dd⟩ := (now_of S.hr r' e1).list S.hr.sub
      exact call_tuple_of pins s σ H _ us Q I rs ⟨a, vs, rfl, .inl ⟨sq, fun q hq => PostE.newF p S hq (dp_newT S.hr hq dd)⟩⟩
    case tuple ds =>
      cases e2
      obtain ⟨a, vs, rfl, sq, dd, dx⟩ := (now_of S.hr r' e1).tuple S.hr.sub
      exact call_tuple_of pins s σ H _ us Q I rs ⟨a, vs, rfl, .inr ⟨sq, PostE.now p S dx⟩⟩
  | [], _, p => exact p.elim
  | _ :: _ :: _, _, p => exact p.elim
theorem cr_list : CallR X (.type "list") (rB X.K xr B Wx (evB .list)) := by
  intro pins s σ H xs us Q I rs hq
  obtain ⟨m, F, env, h, σ', ws, S, r, p⟩ := hq
  match ws, r, p with
  | [w], r, p =>
    obtain ⟨v, rfl, r'⟩ := one_of r
    simp only [evB] at p
    obtain ⟨d, e, p⟩ := liftO_cases p
    rw [Option.map_eq_some_iff] at e
    obtain ⟨xs, e, rfl⟩ := e
    rw [Option.bind_eq_some_iff] at e
    obtain ⟨dx, e1, e2⟩ := e
    cases dx <;> simp only [seqOf, reduceCtorEq] at e2
    case list ds =>
      cases e2
      obtain ⟨a, vs, rfl, sq, dd⟩ := (now_of S.hr r' e1).list S.hr.sub
      exact call_list_of pins s σ H _ us Q I rs ⟨a, vs, rfl, .inl sq, fun q hq => PostE.newF p S hq (dp_newL S.hr hq dd)⟩
    case tuple ds =>
      cases e2
      obtain ⟨a, vs, rfl, sq, dd, dx⟩ := (now_of S.hr r' e1).tuple S.hr.sub
      exact call_list_of pins s σ H _ us Q I rs ⟨a, vs, rfl, .inr sq, fun q hq => PostE.newF p S hq (dp_newL S.hr hq dd)⟩
  | [], _, p => exact p.elim
  | _ :: _ :: _, _, p => exact p.elim
theorem cr_int : CallR X (.type "int") (rB X.K xr B Wx (evB .int)) := by
  intro pins s σ H xs us Q I rs hq
  obtain ⟨m, F, env, h, σ', ws, S, r, p⟩ := hq
  match ws, r, p with
  | [.d (.int i)], r, p =>
    obtain ⟨v, rfl, r'⟩ := one_of r
    have r'' : Dp X.K F v (.int i) := r'
    cases r''
    exact call_int1 pins s σ H _ us Q I rs (.inl ⟨i, rfl, PostE.now p S (.int _)⟩)
  | [.d (.bool k)], r, p =>
    obtain ⟨v, rfl, r'⟩ := one_of r
    have r'' : Dp X.K F v (.bool k) := r'
    cases r''
    exact call_int1 pins s σ H _ us Q I rs (.inr ⟨k, rfl, PostE.now p S (.int _)⟩)
  | [.d .none], _, p => exact p.elim
  | [.d (.str _)], _, p => exact p.elim
  | [.d (.list _)], _, p => exact p.elim
  | [.d (.tuple _)], _, p => exact p.elim
  | [.d (.dict _)], _, p => exact p.elim
  | [.l _], _, p => exact p.elim
  | [], _, p => exact p.elim
  | _ :: _ :: _, _, p => exact (show False by simpa [evB, PostG] using p).elim
theorem ints_vs {F : Hp} : ∀ {ds : List PyData} {vs : List V} {ns : List Int}, DpAll X.K F vs ds → intsOf ds = some ns → vs = ns.map V.int
  | [], _, _, h, e => by cases h; simp [intsOf] at e; subst e; rfl
  | d :: ds, _, _, h, e => by
    cases h with
    | cons h1 h2 =>
      cases d <;> simp only [intsOf, reduceCtorEq] at e
      rw [Option.map_eq_some_iff] at e
      obtain ⟨ns, e, rfl⟩ := e
      cases h1
      rw [ints_vs h2 e]
      rfl
theorem mt_cnt (hu : X.A.units + 200 < cLine) : MtR X "list.count" (fun x xs H Q => ∃ m F env h σ w ws, SR X.K B m F env h σ H ∧ WR X.K m F x w ∧ WRs X.K m F xs ws ∧ PostE X.K xr B Wx m F env σ H (evM .count w ws h) Q) := by
  intro pins s σ H x xs v us Q I rx rxs hq
  obtain ⟨m, F, env, h, σ', w, ws, S, r, rs, p⟩ := hq
  match ws, rs, p with
  | [.d z], rs, p =>
    simp only [evM] at p
    split at p
    · rename_i ys e
      split at p
      · rename_i hd
        obtain ⟨y, rfl, ry⟩ := one_of rs
        obtain ⟨a, vs, rfl, sq, dd⟩ := (now_of S.hr r e).list S.hr.sub
        obtain ⟨uy, rfl, ruy⟩ := vals1 rxs
        cases rx
        obtain ⟨its, rv, ⟨o, n, ho, hc, _, hdd⟩, _⟩ := I.list sq
        have dd' : DpAll X.K H vs ys := dps_mono S.hr.sub _ _ dd
        obtain ⟨as, h4⟩ := Dp.readsAll I ys vs its dd' rv
        have ry1 : Dp X.K F y z := ry
        have ry' : Dp X.K H y z := dp_mono S.hr.sub _ _ ry1
        obtain ⟨bs, h5⟩ := Dp.reads I z y uy ry' ruy
        have := of_decide_eq_true hd
        refine SeqAt.count_list_data (vs := its.toArray) ⟨o, ho, hc, n, hdd⟩ (by simpa using h4) h5 (dps_plain _ _ dd') (dp_plain _ _ ry') (by omega) ?_
        exact ⟨.int _, H, I.tok _, ⟨_, rfl⟩, PostE.now p S (.int _)⟩
      · exact p.elim
    · exact p.elim
  | [.l _], _, p => exact p.elim
  | [], _, p => exact p.elim
  | _ :: _ :: _, _, p => exact (show False by simpa [evM, PostG] using p).elim
end
end Ev

/-! EvU: promises of defs that are called with no guard in force (for repr). -/
namespace Ev
open PySem PySem.Spec L2
/-- as FnOk, asked only where no repr is under way -/
structure FnG (P : Program) (w : World) (K : PySem.W.Frag) (mg : Str → Option Value) (base : Heap) (CX : CXT) (k : Nat) (f : Addr) (fd : FuncData) (ps : List Str) (sp : Sp) : Prop where
  lenG : ∀ ys G Z D, sp ys G Z D → ys.length = ps.length
  runG : ∀ (A : Around), A.guards = some [] → ∀ (fr : List Env) (s : Shared) (G : Hp) (args : Args) (zs : List Value) (ys : List V) (Z : VK) (D : XK), Room k A → Env0 P w K mg base A fr s G → BindsTo s fd args (ps.zip zs) → Vals ys zs → sp ys G Z D →
    codeAny (model P w) A (.call (.ref f) args) (CR CX fr P w G s Z D) s
section
variable {X : Cx} {CX : CXT} {k : Nat} {f : Addr} {fd : FuncData} {ps : List Str} {sp : Sp} {E : St → XK} {x : Str} {p pos : Pos} {e : Expr} {es : List Expr} {t : TA}
/-- the callee at work -/
theorem workG {Z : VK} {pins : List (Addr × Obj)} {σ : L2.St} {G : Hp} {s : Shared} {zs : List Value} {ys : List V} (F : FnG X.prog X.w X.K X.mg X.base CX k f fd ps sp) (gd : X.A.guards = some []) (room : Room k X.A) (bd : Binds X.K fd ps []) (pa : PassesAt CX X σ (E σ))
    (J : Inv X pins σ G s) (rel : Vals ys zs) (q : sp ys G Z (E σ)) : wpAny (model X.prog X.w) X.A (call (.ref f) zs) (EP X pins σ Z) X.xe s := by
  have hz : zs.length = ps.length := rel.length ▸ F.lenG _ _ _ _ q
  have bt : BindsTo s fd ⟨zs, []⟩ (ps.zip zs) := by
    have := bd s zs J.kIn (by simpa using hz)
    simpa using this
  refine wpAny_call (codeAny_mono (F.runG X.A gd X.stack s G ⟨zs, []⟩ zs ys Z (E σ) room J.env0 bt rel q) fun res s2 o => ?_)
  match res, o with
  | .error ex, o => exact pa pins G s ex s2 J o
  | .ok (.ret u), o => exact J.after o
/-- f(a, ..) where no repr is under way -/
theorem pe_callG (F : FnG X.prog X.w X.K X.mg X.base CX k f fd ps sp) (gd : X.A.guards = some []) (room : Room k X.A) (gl : Gl X x) (m : X.mg x = some (.ref f)) (kp : PySem.W.keepIn X.K (.ref f) = true) (bd : Binds X.K fd ps []) (pa : ∀ σ, PassesAt CX X σ (E σ)) (args : PA X (e :: es) t)
    (nd : (x == ("__debug__" : Str)) = false) (st : starEach (e :: es) X.env = (false, eval e X.env) :: starEach es X.env) (ns : (backTo pos (starEach es X.env)).any (·.1) = false) : PE X (.Call (.Name x p) (e :: es) [] pos) (tCallS sp E t) := by
  refine ⟨fun pins s σ G Z J q => wpAny_Call_Name_kw (ld_glob J gl m ?_ nd)⟩
  refine PySem.W.callWith_K (h₀ := X.base) J.ok.mod.kin kp (thn (args.run pos pins s σ G _ J q) fun zs s1 o => ?_) st ns
  obtain ⟨ys, G1, J1, rel, q1⟩ := o
  exact ⟨J1.kIn, workG F gd room bd (pa σ) J1 rel q1⟩
/-- f() where no repr is under way -/
theorem pe_call0G (F : FnG X.prog X.w X.K X.mg X.base CX k f fd ps sp) (gd : X.A.guards = some []) (room : Room k X.A) (gl : Gl X x) (m : X.mg x = some (.ref f)) (kp : PySem.W.keepIn X.K (.ref f) = true) (bd : Binds X.K fd ps []) (pa : ∀ σ, PassesAt CX X σ (E σ))
    (nd : (x == ("__debug__" : Str)) = false) : PE X (.Call (.Name x p) [] [] pos) (fun σ G Z => sp [] G Z (E σ)) := by
  refine ⟨fun pins s σ G Z J q => wpAny_Call_Name_kw (ld_glob J gl m ?_ nd)⟩
  exact PySem.W.callWith_K0 J.kIn kp (workG F gd room bd (pa σ) J .nil q)
end
end Ev

/-! EvH: an expression's value is what the layer's reading asks (sndE). -/
namespace Ev
open PySem PySem.Spec L2
variable [Wd]

/-- what a def promises: as callN says -/
def spF (K : PySem.W.Frag) (xr : XRel) (T : List FD) (n f : Nat) : Sp := fun vs H Q E => ∃ fd, T[f]? = some fd ∧ vs.length = fd.np ∧ ∃ B b m F ws h, b ∈ B ∧ (∀ c ∈ B, c ≤ b) ∧ HR K B m F h H ∧ WRs K m F vs ws ∧
  match callN T n b f ws h with
  | .ok w h' => ∀ v m' F' H', Ext m F H m' F' H' → HR K B m' F' h' H' → WR K m' F' v w → Q v H'
  | .ex c ds h' => ∀ m' F' H' cls dx, Ext m F H m' F' H' → HR K B m' F' h' H' → xr c ds cls dx F' H' → E cls dx H'
  | .bad => False

def bnames : List Str := ["len", "tuple", "int", "sum", "max", "min", "all", "any", "sorted", "list", "repr", "str", "range", "set", "isinstance", "zip", "dict", "bool"]
/-- what must be known where a term is read -/
structure XOk (X : Cx) (Wx : WX) (M : ME) (xr : XRel) (T : List FD) (n : Nat) (sc : Scope) : Prop where
  calm : X.calm = true
  nd : X.N.Nodup
  hN : X.N = M.N
  hs : X.env.scope = sc
  tk : Takes X Wx
  hu : X.A.units + 200 < cLine
  hw : X.w = Wd.w
  gd : X.A.guards = some []
  room : Room n X.A
  bl : ∀ x ∈ bnames, X.mg x = none
  gls : ∀ x i, (x, i) ∈ M.gi → ∃ t, X.mg x = some (.int i t)
  fns : ∀ f x, M.fn[f]? = some x → ∃ a fd ps, X.mg x = some (.ref a) ∧ PySem.W.keepIn X.K (.ref a) = true ∧ Binds X.K fd ps [] ∧ FnG X.prog X.w X.K X.mg X.base (L2.CX X.prog X.w) n a fd ps (spF X.K xr T n f)

structure SE (X : Cx) (xr : XRel) (B : List Nat) (Wx : WX) (r : Vars → Hq → R W) (p : Expr) : Prop where
  pe : PE X p (tE X.K xr B Wx r)
  pt : notIf p = true → PT X p (tT X.K xr B Wx r)
  pw : isBO p = true → PW X p (tT X.K xr B Wx r)

theorem gl_of {X : Cx} {sc : Scope} {x : Str} (hs : X.env.scope = sc) (h : isGl sc x = true) : Gl X x := by
  unfold Gl Env.kindOf
  rw [hs]
  exact of_decide_eq_true h
theorem vis_of {sc : Scope} {x : Str} (h : isVis sc x = true) : Vis sc x := by
  unfold isVis at h
  split at h
  · exact .inl (by assumption)
  · exact .inr (.inl (by assumption))
  · exact .inr (.inr (by assumption))
  · cases h
theorem sto_of {sc : Scope} {x : Str} (h : isSto sc x = true) : Loc sc x := by
  unfold isSto at h
  split at h
  · exact .inl (by assumption)
  · exact .inr (by assumption)
  · cases h
theorem plainN_of {x : Str} (h : plainN x = true) : (x == ("__debug__" : Str)) = false ∧ (x == ("__classdict__" : Str)) = false ∧ x ≠ "__name__" := by
  unfold plainN at h
  simp only [Bool.and_eq_true, decide_eq_true_eq] at h
  exact ⟨beq_eq_false_iff_ne.mpr h.1.1, beq_eq_false_iff_ne.mpr h.1.2, h.2⟩

section
variable {X : Cx} {xr : XRel} {B : List Nat} {Wx : WX}
theorem star1 {p : Expr} {ps : List Expr} {env : Env} (h : notStar p = true) : starEach (p :: ps) env = (false, eval p env) :: starEach ps env := by
  cases p <;> first | rfl | (simp [notStar] at h)
theorem stars_of {M : ME} {sc : Scope} {env : Env} : ∀ {es : Es} {ps : List Expr}, matEs M sc es ps = true → ∀ pos, (backTo pos (starEach ps env)).any (·.1) = false ∧ (backTo pos (starEach ps env)).all (fun x => !x.1) = true
  | .nil, [], _, pos => ⟨rfl, rfl⟩
  | .nil, _ :: _, h, _ => by simp [matEs] at h
  | .cons _ _, [], h, _ => by simp [matEs] at h
  | .cons e es, p :: ps, h, pos => by
    simp only [matEs, Bool.and_eq_true] at h
    rw [star1 h.1.1]
    have ih := stars_of (env := env) h.2 pos
    unfold backTo at ih ⊢
    simp only [List.map_cons, List.any_cons, List.all_cons, Bool.false_or, Bool.not_false, Bool.true_and]
    exact ih
theorem star_head {M : ME} {sc : Scope} {es : Es} {p : Expr} {ps : List Expr} (h : matEs M sc es (p :: ps) = true) : notStar p = true := by
  cases es with
  | nil => simp [matEs] at h
  | cons e es => simp only [matEs, Bool.and_eq_true] at h; exact h.1.1

/-- two values, one operator -/
theorem tOp_read {ra rb : Vars → Hq → R W} {f : W → W → Hq → R W} (σ : L2.St) (H : Hp) (Q : VK) (p : tE X.K xr B Wx (fun env h => (ra env h).bind fun v h => (rb env h).bind fun w h => f v w h) σ H Q) :
    tOp (rOp X.K xr B Wx f) (tE X.K xr B Wx ra) (tE X.K xr B Wx rb) σ H Q := by
  obtain ⟨m, F, env, h, S, p⟩ := p
  refine ⟨m, F, env, h, S, p.bind.mono fun w1 h1 m1 F1 H1 x1 S1 p x r1 => ⟨m1, F1, env, h1, S1, p.bind.mono fun w2 h2 m2 F2 H2 x2 S2 p y r2 => ?_⟩⟩
  exact ⟨m2, F2, env, h2, σ, w1, w2, S2, wr_mono x2.ml x2.sub r1, r2, p⟩
theorem SE.of_plain {r : Vars → Hq → R W} {p : Expr} (h : PE X p (tE X.K xr B Wx r)) (he : ∀ whole, isTrue p X.env whole = (do let v ← whole; standAt p.pos; holding [v] (truthy v))) (hb : isBO p = false) : SE X xr B Wx r p := by
  refine ⟨h, fun _ => (pt_val h he).weak fun σ H Q q => ?_, fun z => by rw [hb] at z; cases z⟩
  obtain ⟨m, F, env, h, S, q⟩ := q
  refine ⟨m, F, env, h, S, q.mono fun w h1 m1 F1 H1 x1 S1 q v rv => ?_⟩
  obtain ⟨k, rfl, q⟩ := q
  have rv : Dp X.K F1 v (.bool k) := rv
  cases rv
  exact ⟨k, rfl, q⟩
theorem tB_of {r : Vars → Hq → R W} (σ : L2.St) (H : Hp) (Q : Bool → Hp → Prop) (q : tT X.K xr B Wx r σ H Q) : tB (tE X.K xr B Wx r) σ H Q := by
  obtain ⟨m, F, env, h, S, q⟩ := q
  refine ⟨m, F, env, h, S, q.mono fun w h1 m1 F1 H1 x1 S1 q v rv => ?_⟩
  obtain ⟨k, rfl, q⟩ := q
  have rv : Dp X.K F1 v (.bool k) := rv
  cases rv
  exact ⟨k, rfl, q⟩
theorem tTest_weak {t t' : TE} (i : ∀ σ H Q, t' σ H Q → t σ H Q) (σ : L2.St) (H : Hp) (Q : Bool → Hp → Prop) (q : tB t' σ H Q) : tTest t σ H Q := i _ _ _ q
end

section
variable {M : ME} {xr : XRel} {T : List FD} {n b : Nat} {B : List Nat}

theorem bt_gl {X : Cx} {Wx : WX} {sc : Scope} {f : Bt} (k : XOk X Wx M xr T n sc) : X.mg f.nm = none := k.bl _ (by cases f <;> decide +kernel)

/-- a term that stands for the text's piece -/
def SndE (M : ME) (xr : XRel) (T : List FD) (n b : Nat) (B : List Nat) (e : E) : Prop := ∀ (X : Cx) (Wx : WX) (sc : Scope) (p : Expr), XOk X Wx M xr T n sc → matE M sc e p = true → SE X xr B Wx (evE b (callN T n) e) p
def SndEs (M : ME) (xr : XRel) (T : List FD) (n b : Nat) (B : List Nat) (es : Es) : Prop := ∀ (X : Cx) (Wx : WX) (sc : Scope) (ps : List Expr), XOk X Wx M xr T n sc → matEs M sc es ps = true → PA X ps (tA X.K xr B Wx (evEs b (callN T n) es))

theorem snd_var (i : Nat) : SndE M xr T n b B (.var i) := by
  intro X Wx sc p k h
  cases p <;> simp only [matE, Bool.false_eq_true] at h
  rename_i x pos
  simp only [Bool.and_eq_true] at h
  obtain ⟨⟨h1, h2⟩, h3⟩ := h
  obtain ⟨h4, h5, _⟩ := plainN_of h3
  refine SE.of_plain ((pe_var (i := i) (by rw [k.hN]; exact of_decide_eq_true h1) (by rw [k.hs]; exact vis_of h2) h4 h5).weak fun σ H Q q => ?_) (fun _ => rfl) rfl
  obtain ⟨m, F, env, hq, S, q⟩ := q
  simp only [evE] at q
  split at q
  · rename_i w e
    obtain ⟨v, ev, rv⟩ := S.var i w e
    exact ⟨v, ev, PostE.now q S rv⟩
  · exact q.elim
theorem snd_lit (c : PyData) : SndE M xr T n b B (.lit c) := by
  intro X Wx sc p k h
  cases p <;> simp only [matE, Bool.false_eq_true] at h
  rename_i cc j pos
  have nw : ∀ {σ H Q} {v : V}, (∀ F, Dp X.K F v c) → tE X.K xr B Wx (evE b (callN T n) (.lit c)) σ H Q → Q v H := fun {σ H Q v} d q => by
    obtain ⟨m, F, env, hq, S, q⟩ := q
    exact PostE.now q S (d F)
  cases c <;> cases cc <;> simp only [matC, Bool.false_eq_true, decide_eq_true_eq] at h
  case none.none => exact SE.of_plain (pe_non.weak fun σ H Q q => nw (fun _ => .non) q) (fun _ => rfl) rfl
  case bool.bool => subst h; exact SE.of_plain (pe_bl.weak fun σ H Q q => nw (fun _ => .bl _) q) (fun _ => rfl) rfl
  case int.int => subst h; exact SE.of_plain (pe_int.weak fun σ H Q q => nw (fun _ => .int _) q) (fun _ => rfl) rfl
  case str.str => subst h; exact SE.of_plain (pe_str.weak fun σ H Q q => nw (fun _ => .str _) q) (fun _ => rfl) rfl

theorem snd_nil : SndEs M xr T n b B .nil := by
  intro X Wx sc ps k h
  cases ps with
  | cons _ _ => simp [matEs] at h
  | nil =>
    refine PA.weak pa_nil fun σ H Q q => ?_
    obtain ⟨m, F, env, hq, S, q⟩ := q
    exact q m F H (.refl ..) S [] .nil
theorem snd_cons {e : E} {es : Es} (he : SndE M xr T n b B e) (hes : SndEs M xr T n b B es) : SndEs M xr T n b B (.cons e es) := by
  intro X Wx sc ps k h
  cases ps with
  | nil => simp [matEs] at h
  | cons p ps =>
    simp only [matEs, Bool.and_eq_true] at h
    refine PA.weak (pa_cons (he X Wx sc p k h.1.2).pe (hes X Wx sc ps k h.2) (star1 h.1.1)) fun σ H Q q => ?_
    obtain ⟨m, F, env, hq, S, q⟩ := q
    refine ⟨m, F, env, hq, S, (PostG.bind q).mono fun w h1 m1 F1 H1 x1 S1 q x r1 => ⟨m1, F1, env, h1, S1, q.bind.mono fun ws h2 m2 F2 H2 x2 S2 q xs r2 => ?_⟩⟩
    exact q m2 F2 H2 (.refl ..) S2 _ (.cons (wr_mono x2.ml x2.sub r1) r2)
theorem ev_len : ∀ (C : CallF) (es : Es) {env : Vars} {h h' : Hq} {ws : List W}, evEs b C es env h = .ok ws h' → ws.length = es.len
  | _, .nil, _, _, _, _, e => by simp only [evEs, R.ok.injEq] at e; rw [← e.1]; rfl
  | C, .cons e es, env, h, h', ws, q => by
    simp only [evEs] at q
    cases h1 : evE b C e env h with
    | ok w h1' =>
      rw [h1] at q
      simp only [R.bind] at q
      cases h2 : evEs b C es env h1' with
      | ok ws2 h2' =>
        rw [h2] at q
        simp only [R.ok.injEq] at q
        rw [← q.1, List.length_cons, ev_len C es h2]
        rfl
      | ex _ _ _ => rw [h2] at q; simp at q
      | bad => rw [h2] at q; simp at q
    | ex _ _ _ => rw [h1] at q; simp [R.bind] at q
    | bad => rw [h1] at q; simp [R.bind] at q
/-- a display: its items, then the new thing -/
theorem disp {X : Cx} {Wx : WX} {es : Es} {g : List W → Hq → R W} {σ : L2.St} {H : Hp} {Q : VK} {G : List V → Hp → Prop} (q : tE X.K xr B Wx (fun env h => (evEs b (callN T n) es env h).bind g) σ H Q) (hl : es.len ≤ 10000)
    (fin : ∀ m F env h H ws vs, SR X.K B m F env h σ H → WRs X.K m F vs ws → ws.length ≤ sizeLine → PostE X.K xr B Wx m F env σ H (g ws h) Q → G vs H) : tA X.K xr B Wx (evEs b (callN T n) es) σ H (fun vs H1 => vs.length ≤ sizeLine ∧ G vs H1) := by
  obtain ⟨m, F, env, hq, S, q⟩ := q
  refine ⟨m, F, env, hq, S, ?_⟩
  have q' := q.bind
  have small : ∀ k : Nat, k ≤ 10000 → k ≤ sizeLine := fun k hk => by rw [PySem.sizeLine_eq]; omega
  cases e : evEs b (callN T n) es env hq with
  | ok ws h1 =>
    have len := ev_len _ _ e
    rw [e] at q'
    intro m1 F1 H1 x1 S1 vs rv
    have hw : ws.length ≤ sizeLine := small _ (by omega)
    exact ⟨by rw [rv.length]; exact hw, fin m1 F1 env h1 H1 ws vs S1 rv hw (q' m1 F1 H1 x1 S1)⟩
  | ex c ds h1 => rw [e] at q'; exact q'
  | bad => rw [e] at q'; exact q'
theorem snd_tup {es : Es} (hes : SndEs M xr T n b B es) : SndE M xr T n b B (.tup es) := by
  intro X Wx sc p k h
  cases p <;> simp only [matE, Bool.false_eq_true, Bool.and_eq_true, decide_eq_true_eq] at h
  refine SE.of_plain ((pe_tup (hes X Wx sc _ k h.1)).weak fun σ H Q q => ?_) (fun _ => rfl) rfl
  refine disp (by simpa only [tE, evE] using q) h.2 fun m F env hq H ws vs S rv hl q p hp => ?_
  split at q
  · rename_i ds e
    exact PostE.newF q S hp (dp_newT S.hr hp (rv.toD e))
  · exact q.elim
theorem snd_lst {es : Es} (hes : SndEs M xr T n b B es) : SndE M xr T n b B (.lst es) := by
  intro X Wx sc p k h
  cases p <;> simp only [matE, Bool.false_eq_true, Bool.and_eq_true, decide_eq_true_eq] at h
  refine SE.of_plain ((pe_lst (hes X Wx sc _ k h.1)).weak fun σ H Q q => ?_) (fun _ => rfl) rfl
  refine disp (by simpa only [tE, evE] using q) h.2 fun m F env hq H ws vs S rv hl q p hp => ?_
  split at q
  · rename_i ds e
    exact PostE.newF q S hp (dp_newL S.hr hp (rv.toD e))
  · exact q.elim
theorem snd_lstM {es : Es} (hes : SndEs M xr T n b B es) : SndE M xr T n b B (.lstM es) := by
  intro X Wx sc p k h
  cases p <;> simp only [matE, Bool.false_eq_true, Bool.and_eq_true, decide_eq_true_eq] at h
  refine SE.of_plain ((pe_lst (hes X Wx sc _ k h.1)).weak fun σ H Q q => ?_) (fun _ => rfl) rfl
  refine disp (by simpa only [tE, evE] using q) h.2 fun m F env hq H ws vs S rv hl q p hp => ?_
  split at q
  · rename_i ds e
    exact PostE.newL (o := .lst ds) q S hp ⟨S.hr.freeF hp, vs, upd_same, rv.toD e⟩
  · exact q.elim
theorem snd_lsw {es : Es} (hes : SndEs M xr T n b B es) : SndE M xr T n b B (.lsw es) := by
  intro X Wx sc p k h
  cases p <;> simp only [matE, Bool.false_eq_true, Bool.and_eq_true, decide_eq_true_eq] at h
  refine SE.of_plain ((pe_lst (hes X Wx sc _ k h.1)).weak fun σ H Q q => ?_) (fun _ => rfl) rfl
  refine disp (by simpa only [tE, evE] using q) h.2 fun m F env hq H ws vs S rv hl q p hp => ?_
  exact PostE.newL (o := .lsw ws) q S hp ⟨S.hr.freeF hp, vs, upd_same, wrs_mono ⟨[p], rfl⟩ (.refl _) rv⟩
theorem snd_bin {o : Operator} {x y : E} (hx : SndE M xr T n b B x) (hy : SndE M xr T n b B y) : SndE M xr T n b B (.bin o x y) := by
  intro X Wx sc p k h
  cases p <;> simp only [matE, Bool.false_eq_true, Bool.and_eq_true, decide_eq_true_eq] at h
  obtain ⟨⟨rfl, h1⟩, h2⟩ := h
  refine SE.of_plain ((pe_op (op_bin o) (hx X Wx sc _ k h1).pe (hy X Wx sc _ k h2).pe).weak fun σ H Q q => tOp_read σ H Q (by simpa only [tE, evE] using q)) (fun _ => rfl) rfl
theorem opM_cases {K : PySem.W.Frag} {Wx : WX} {f : PyData → PyData → Option PyData} {v w : W} {h : Hq} {m : List Addr} {F H : Hp} {env : Vars} {σ : L2.St} {Q : VK} (p : PostE K xr B Wx m F env σ H (opM f v w h) Q) :
    ∃ d e xs, toD h v = some d ∧ toD h w = some e ∧ f d e = some (.list xs) ∧ PostE K xr B Wx m F env σ H (.ok (.l h.length) (h ++ [.lst xs])) Q := by
  unfold opM at p
  split at p
  · rename_i d e h1 h2
    split at p
    · rename_i xs h3
      exact ⟨d, e, xs, h1, h2, h3, p⟩
    · exact p.elim
  · exact p.elim
theorem op_binM {X : Cx} {Wx : WX} (o : Operator) : OpR X (binaryOp o) (rOp X.K xr B Wx (opM (evBin o))) := by
  intro pins s σ H x y v u Q I rx ry hq
  obtain ⟨m, F, env, h, σ', w1, w2, S, r1, r2, p⟩ := hq
  obtain ⟨d, e, r, t1, t2, ev, p⟩ := opM_cases p
  have n1 := now_of S.hr r1 t1
  have n2 := now_of S.hr r2 t2
  have szE := sz_eq
  cases o <;> cases d <;> cases e <;> simp only [evBin, reduceCtorEq] at ev <;> first | (cases ev; done) | (split at ev <;> cases ev; done) | skip
  case Add.list.list i j =>
    split at ev
    · cases ev
      obtain ⟨a, vs, rfl, s1, d1⟩ := n1.list S.hr.sub
      obtain ⟨b, us, rfl, s2, d2⟩ := n2.list S.hr.sub
      have l1 := d1.length
      have l2 := d2.length
      exact op_catL pins s σ H _ _ v u Q I rx ry ⟨a, b, vs, us, rfl, rfl, s1, s2, by omega, fun q hq => PostE.newL (o := .lst (i ++ j)) p S hq ⟨S.hr.freeF hq, vs ++ us, upd_same, d1.app d2⟩⟩
    · cases ev
  case Mult.list.int i j =>
    split at ev
    · rename_i hc
      cases n2.int; cases ev
      obtain ⟨a, vs, rfl, s1, d1⟩ := n1.list S.hr.sub
      have hc := repOk_ok hc
      have l1 := d1.length
      exact op_repL pins s σ H _ _ v u Q I rx ry ⟨a, j, vs, rfl, rfl, s1, by omega, by omega, by rw [l1]; omega, fun q hq => PostE.newL (o := .lst (repL i j)) p S hq ⟨S.hr.freeF hq, _, upd_same, d1.rep _⟩⟩
    · cases ev
theorem snd_binM {o : Operator} {x y : E} (hx : SndE M xr T n b B x) (hy : SndE M xr T n b B y) : SndE M xr T n b B (.binM o x y) := by
  intro X Wx sc p k h
  cases p <;> simp only [matE, Bool.false_eq_true, Bool.and_eq_true, decide_eq_true_eq] at h
  obtain ⟨⟨rfl, h1⟩, h2⟩ := h
  refine SE.of_plain ((pe_op (op_binM o) (hx X Wx sc _ k h1).pe (hy X Wx sc _ k h2).pe).weak fun σ H Q q => tOp_read σ H Q (by simpa only [tE, evE] using q)) (fun _ => rfl) rfl
theorem snd_cmp {o : CmpOp} {x y : E} (hx : SndE M xr T n b B x) (hy : SndE M xr T n b B y) : SndE M xr T n b B (.cmp o x y) := by
  intro X Wx sc p k h
  cases p <;> try (simp only [matE, Bool.false_eq_true] at h; done)
  rename_i l ops cs pos
  match ops, cs, h with
  | [o'], [pb], h =>
    simp only [matE, Bool.and_eq_true, decide_eq_true_eq] at h
    obtain ⟨⟨⟨rfl, h0⟩, h1⟩, h2⟩ := h
    have hm : behindInMarks o pb = false := by cases pb <;> first | rfl | (simp [notSet] at h0)
    have a := (hx X Wx sc _ k h1).pe
    have c := (hy X Wx sc _ k h2).pe
    refine ⟨(pe_cmpR (op_cmp k.hw k.hu o) a c hm).weak fun σ H Q q => tOp_read σ H Q (by simpa only [tE, evE] using q), fun _ => (pt_cmpR (op_cmp (xr := xr) (B := B) (Wx := Wx) k.hw k.hu o) a c hm).weak fun σ H Q q => ?_, fun z => by cases z⟩
    exact tTest_weak (t' := tE X.K xr B Wx (evE b (callN T n) (.cmp o x y))) (fun σ H Q q => tOp_read σ H Q (by simpa only [tE, evE] using q)) σ H Q (tB_of σ H Q q)
  | [], _, h => simp [matE] at h
  | [_], [], h => simp [matE] at h
  | [_], _ :: _ :: _, h => simp [matE] at h
  | _ :: _ :: _, _, h => simp [matE] at h
end
end Ev

/-! EvI: the rest of the expressions; all of them (sndE). -/
namespace Ev
open PySem PySem.Spec L2
variable [Wd]
section
variable {M : ME} {xr : XRel} {T : List FD} {n b : Nat} {B : List Nat}

theorem bind1 {K : PySem.W.Frag} {Wx : WX} {ra : Vars → Hq → R W} {g : Vars → W → Hq → R W} {σ : L2.St} {H : Hp} {Q : VK} {Q' : VK} (p : tE K xr B Wx (fun env h => (ra env h).bind (g env)) σ H Q)
    (i : ∀ m F env h H w v, SR K B m F env h σ H → WR K m F v w → PostE K xr B Wx m F env σ H (g env w h) Q → Q' v H) : tE K xr B Wx ra σ H Q' := by
  obtain ⟨m, F, env, h, S, p⟩ := p
  exact ⟨m, F, env, h, S, p.bind.mono fun w h1 m1 F1 H1 x1 S1 p v rv => i m1 F1 env h1 H1 w v S1 rv p⟩

theorem snd_neg {x : E} (hx : SndE M xr T n b B x) : SndE M xr T n b B (.neg x) := by
  intro X Wx sc p k h
  cases p <;> try (simp only [matE, Bool.false_eq_true] at h; done)
  rename_i o pa pos
  cases o <;> simp only [matE, Bool.false_eq_true] at h
  refine SE.of_plain ((pe_un un_neg (hx X Wx sc _ k h).pe).weak fun σ H Q q => ?_) (fun _ => rfl) rfl
  simp only [tE, evE] at q
  refine bind1 (ra := evE b (callN T n) x) q fun m F env hq H w v S r q => ?_
  split at q
  · rename_i i
    have r : Dp X.K F v (.int i) := r
    cases r
    exact ⟨i, rfl, PostE.now q S (.int _)⟩
  · exact q.elim
theorem tT_of {X : Cx} {Wx : WX} {r : Vars → Hq → R W} {t : TE} {σ : L2.St} {H : Hp} {Q : Bool → Hp → Prop} (i : ∀ σ H Q, tE X.K xr B Wx r σ H Q → t σ H Q) (q : tT X.K xr B Wx r σ H Q) : tB t σ H Q := i σ H _ (tB_of σ H Q q)
theorem snd_nt {x : E} (hx : SndE M xr T n b B x) : SndE M xr T n b B (.nt x) := by
  intro X Wx sc p k h
  cases p <;> try (simp only [matE, Bool.false_eq_true] at h; done)
  rename_i o pa pos
  cases o <;> simp only [matE, Bool.false_eq_true, Bool.and_eq_true] at h
  have a := hx X Wx sc _ k h.1
  refine ⟨(pe_not a.pe).weak fun σ H Q q => ?_, fun _ => (pt_not (a.pt h.2)).weak fun σ H Q q => ?_, fun z => by cases z⟩
  · simp only [tE, evE] at q
    refine bind1 (ra := evE b (callN T n) x) q fun m F env hq H w v S r q => ?_
    split at q
    · rename_i i
      have r : Dp X.K F v (.bool i) := r
      cases r
      exact ⟨i, rfl, PostE.now q S (.bl _)⟩
    · exact q.elim
  · obtain ⟨m, F, env, hq, S, q⟩ := q
    refine ⟨m, F, env, hq, S, (PostG.bind q).mono fun w h1 m1 F1 H1 x1 S1 q => ?_⟩
    split at q
    · rename_i i
      obtain ⟨k, e, q⟩ := q m1 F1 H1 (.refl ..) S1
      cases e
      exact ⟨i, rfl, q⟩
    · exact q.elim
theorem isn_read {X : Cx} {Wx : WX} {x : E} {σ : L2.St} {H : Hp} {Q : VK} (q : tE X.K xr B Wx (evE b (callN T n) (.isN x)) σ H Q) : tIsN (tE X.K xr B Wx (evE b (callN T n) x)) σ H Q := by
  simp only [tE, evE] at q
  refine bind1 (ra := evE b (callN T n) x) q fun m F env hq H w v S r q => ?_
  have fin : ∀ k, decide (v = .non) = k → PostE X.K xr B Wx m F env σ H (.ok (.d (.bool k)) hq) Q → Q (.bl (decide (v = .non))) H := fun k e q => by
    rw [e]; exact PostE.now q S (.bl k)
  cases w with
  | l j =>
    obtain ⟨a, _, rfl⟩ := r
    exact fin false (by simp) q
  | d y =>
    have r : Dp X.K F v y := r
    cases r with
    | non => exact fin true (by decide) q
    | bl _ => exact fin false (by simp) q
    | int _ => exact fin false (by simp) q
    | str _ => exact fin false (by simp) q
    | lst _ _ => exact fin false (by simp) q
    | tup _ _ => exact fin false (by simp) q
theorem notn_read {X : Cx} {Wx : WX} {x : E} {σ : L2.St} {H : Hp} {Q : VK} (q : tE X.K xr B Wx (evE b (callN T n) (.notN x)) σ H Q) : tNotN (tE X.K xr B Wx (evE b (callN T n) x)) σ H Q := by
  simp only [tE, evE] at q
  refine bind1 (ra := evE b (callN T n) x) q fun m F env hq H w v S r q => ?_
  have fin : ∀ k, decide (v = .non) = !k → PostE X.K xr B Wx m F env σ H (.ok (.d (.bool k)) hq) Q → Q (.bl (!decide (v = .non))) H := fun k e q => by
    rw [e, Bool.not_not]; exact PostE.now q S (.bl k)
  cases w with
  | l j =>
    obtain ⟨a, _, rfl⟩ := r
    exact fin true (by simp) q
  | d y =>
    have r : Dp X.K F v y := r
    cases r with
    | non => exact fin false (by simp) q
    | bl _ => exact fin true (by simp) q
    | int _ => exact fin true (by simp) q
    | str _ => exact fin true (by simp) q
    | lst _ _ => exact fin true (by simp) q
    | tup _ _ => exact fin true (by simp) q
theorem snd_isN {x : E} (hx : SndE M xr T n b B x) : SndE M xr T n b B (.isN x) := by
  intro X Wx sc p k h
  cases p <;> try (simp only [matE, Bool.false_eq_true] at h; done)
  rename_i l ops cs pos
  rcases ops with _ | ⟨o, _ | ⟨o2, os⟩⟩ <;> rcases cs with _ | ⟨c, _ | ⟨c2, cs⟩⟩ <;> try (simp [matE] at h; done)
  cases o <;> try (simp [matE] at h; done)
  cases c <;> try (simp [matE] at h; done)
  rename_i c _ _
  cases c <;> try (simp [matE] at h; done)
  simp only [matE] at h
  have a := (hx X Wx sc _ k h).pe
  exact ⟨(pe_cmp (pc_isN a) rfl).weak fun σ H Q q => isn_read q, fun _ => (pt_cmp (pc_isN a) rfl).weak fun σ H Q q => tT_of (fun σ H Q q => isn_read q) q, fun z => by cases z⟩
theorem snd_notN {x : E} (hx : SndE M xr T n b B x) : SndE M xr T n b B (.notN x) := by
  intro X Wx sc p k h
  cases p <;> try (simp only [matE, Bool.false_eq_true] at h; done)
  rename_i l ops cs pos
  rcases ops with _ | ⟨o, _ | ⟨o2, os⟩⟩ <;> rcases cs with _ | ⟨c, _ | ⟨c2, cs⟩⟩ <;> try (simp [matE] at h; done)
  cases o <;> try (simp [matE] at h; done)
  cases c <;> try (simp [matE] at h; done)
  rename_i c _ _
  cases c <;> try (simp [matE] at h; done)
  simp only [matE] at h
  have a := (hx X Wx sc _ k h).pe
  exact ⟨(pe_cmp (pc_notN a) rfl).weak fun σ H Q q => notn_read q, fun _ => (pt_cmp (pc_notN a) rfl).weak fun σ H Q q => tT_of (fun σ H Q q => notn_read q) q, fun z => by cases z⟩

theorem op_isB {X : Cx} (n : Bool) : OpR X (compareOp (if n then .IsNot else .Is)) (fun x y H Q => ∃ c d, x = .bl c ∧ y = .bl d ∧ Q (.bl (xor n (c == d))) H) := by
  intro pins s σ H x y v u Q I rx ry hq
  obtain ⟨c, d, rfl, rfl, q⟩ := hq
  cases rx
  cases ry
  cases n
  · exact PyProof.Rows.is_bool ⟨.bl _, H, I, rfl, by simpa using q⟩
  · exact PyProof.Rows.isnot_bool ⟨.bl _, H, I, rfl, by simpa [bne] using q⟩
theorem isB_read {X : Cx} {Wx : WX} {nn kk : Bool} {x : E} {σ : L2.St} {H : Hp} {Q : VK} (q : tE X.K xr B Wx (evE b (callN T n) (.isB nn kk x)) σ H Q) : tOp (fun x y H Q => ∃ c d, x = .bl c ∧ y = .bl d ∧ Q (.bl (xor nn (c == d))) H) (tE X.K xr B Wx (evE b (callN T n) x)) (tC (.bl kk)) σ H Q := by
  simp only [tE, evE] at q
  refine bind1 (ra := evE b (callN T n) x) q fun m F env hq H w v S r q => ?_
  split at q
  · rename_i j
    have r : Dp X.K F v (.bool j) := r
    cases r
    exact ⟨j, kk, rfl, rfl, PostE.now q S (.bl _)⟩
  · exact q.elim
theorem snd_isB {nn kk : Bool} {x : E} (hx : SndE M xr T n b B x) : SndE M xr T n b B (.isB nn kk x) := by
  intro X Wx sc p k h
  cases p <;> try (simp only [matE, Bool.false_eq_true] at h; done)
  rename_i l ops cs pos
  rcases ops with _ | ⟨o, _ | ⟨o2, os⟩⟩ <;> rcases cs with _ | ⟨c, _ | ⟨c2, cs⟩⟩ <;> try (simp [matE] at h; done)
  cases c <;> try (simp [matE] at h; done)
  rename_i c _ _
  cases c <;> try (simp [matE] at h; done)
  simp only [matE, Bool.and_eq_true, decide_eq_true_eq] at h
  obtain ⟨⟨rfl, rfl⟩, h1⟩ := h
  have a := (hx X Wx sc _ k h1).pe
  have hm : ∀ {j p}, behindInMarks (if nn then CmpOp.IsNot else .Is) (.Constant (.bool kk) j p) = false := by
    intro j p
    cases nn <;> rfl
  exact ⟨(pe_cmpR (op_isB nn) a pe_bl hm).weak fun σ H Q q => isB_read q, fun _ => (pt_cmpR (op_isB nn) a pe_bl hm).weak fun σ H Q q => tT_of (fun σ H Q q => isB_read q) q, fun z => by cases z⟩
theorem chain_read {X : Cx} {Wx : WX} {o o' : CmpOp} {x y z : E} {σ : L2.St} {H : Hp} {Q : VK} (q : tE X.K xr B Wx (evE b (callN T n) (.cmp2 o o' x y z)) σ H Q) :
    tChain (rOp X.K xr B Wx (cmpW o)) (rOp X.K xr B Wx (cmpW o')) (tE X.K xr B Wx (evE b (callN T n) x)) (tE X.K xr B Wx (evE b (callN T n) y)) (tE X.K xr B Wx (evE b (callN T n) z)) σ H Q := by
  obtain ⟨m, F, env, h, S, p⟩ := q
  simp only [evE] at p
  refine ⟨m, F, env, h, S, p.bind.mono fun w1 h1 m1 F1 H1 x1 S1 p x r1 => ⟨m1, F1, env, h1, S1, p.bind.mono fun w2 h2 m2 F2 H2 x2 S2 p y r2 => ?_⟩⟩
  refine ⟨m2, F2, env, h2, σ, w1, w2, S2, wr_mono x2.ml x2.sub r1, r2, p.bind.mono fun w3 h3 m3 F3 H3 x3 S3 p v r3 => ?_⟩
  split at p
  · have r3 : Dp X.K F3 v (.bool true) := r3
    cases r3
    refine ⟨true, rfl, iteT ⟨m3, F3, env, h3, S3, p.bind.mono fun w4 h4 m4 F4 H4 x4 S4 p u r4 => ?_⟩⟩
    exact ⟨m4, F4, env, h4, σ, w2, w4, S4, wr_mono (x3.trans x4).ml (x3.trans x4).sub r2, r4, p⟩
  · have r3 : Dp X.K F3 v (.bool false) := r3
    cases r3
    exact ⟨false, rfl, iteF (PostE.now p S3 (.bl _))⟩
  · exact p.elim
theorem snd_cmp2 {o o' : CmpOp} {x y z : E} (hx : SndE M xr T n b B x) (hy : SndE M xr T n b B y) (hz : SndE M xr T n b B z) : SndE M xr T n b B (.cmp2 o o' x y z) := by
  intro X Wx sc p k h
  cases p <;> try (simp only [matE, Bool.false_eq_true] at h; done)
  rename_i l ops cs pos
  rcases ops with _ | ⟨o1, _ | ⟨o2, _ | ⟨o3, os⟩⟩⟩ <;> rcases cs with _ | ⟨c, _ | ⟨c2, _ | ⟨c3, cs⟩⟩⟩ <;> try (simp [matE] at h; done)
  simp only [matE, Bool.and_eq_true, decide_eq_true_eq] at h
  obtain ⟨⟨⟨⟨⟨⟨rfl, rfl⟩, g1⟩, g2⟩, h1⟩, h2⟩, h3⟩ := h
  have hm : ∀ {o : CmpOp} {c : Expr}, notSet c = true → behindInMarks o c = false := fun {o c} g => by cases c <;> first | rfl | (simp [notSet] at g)
  have a1 := (hx X Wx sc _ k h1).pe
  have a2 := (hy X Wx sc _ k h2).pe
  have a3 := (hz X Wx sc _ k h3).pe
  have mk : ∀ {o : CmpOp} {c : Expr}, notSet c = true → markedBehindIn o c = fun t => t := fun {o c} g => by
    funext t
    unfold markedBehindIn
    rw [hm g]
  refine ⟨(pe_chain (op_cmp (xr := xr) (B := B) (Wx := Wx) k.hw k.hu o) (op_cmp (xr := xr) (B := B) (Wx := Wx) k.hw k.hu o') a1 a2 a3 ?_).weak fun σ H Q q => chain_read q, fun _ => (pt_chain (op_cmp (xr := xr) (B := B) (Wx := Wx) k.hw k.hu o) (op_cmp (xr := xr) (B := B) (Wx := Wx) k.hw k.hu o') a1 a2 a3 ?_).weak fun σ H Q q => ?_, fun z => by cases z⟩
  all_goals first | exact hm g2 | exact tT_of (fun σ H Q q => chain_read q) (by assumption)
theorem snd_one {x : E} (hx : SndE M xr T n b B x) : SndE M xr T n b B (.one x) := by
  intro X Wx sc p k h
  cases p <;> try (simp only [matE, Bool.false_eq_true] at h; done)
  rename_i o ps pos
  rcases ps with _ | ⟨p, _ | ⟨p2, ps⟩⟩ <;> try (simp [matE] at h; done)
  simp only [matE, Bool.and_eq_true] at h
  have a := hx X Wx sc _ k h.1
  have e : ∀ {σ H Q}, tE X.K xr B Wx (evE b (callN T n) (.one x)) σ H Q → tE X.K xr B Wx (evE b (callN T n) x) σ H Q := fun {σ H Q} q => by simpa only [tE, evE] using q
  have e' : ∀ {σ H Q}, tT X.K xr B Wx (evE b (callN T n) (.one x)) σ H Q → tT X.K xr B Wx (evE b (callN T n) x) σ H Q := fun {σ H Q} q => by simpa only [tT, evE] using q
  have w : PW X (.BoolOp o [p] pos) (tT X.K xr B Wx (evE b (callN T n) (.one x))) := by
    cases o
    · exact (pw_and1 (a.pt h.2)).weak fun σ H Q q => e' q
    · exact (pw_or1 (a.pt h.2)).weak fun σ H Q q => e' q
  exact ⟨(pe_one a.pe).weak fun σ H Q q => e q, fun _ => w.pt, fun _ => w⟩
theorem snd_and {x y : E} (hx : SndE M xr T n b B x) (hy : SndE M xr T n b B y) : SndE M xr T n b B (.and x y) := by
  intro X Wx sc p k h
  cases p <;> try (simp only [matE, Bool.false_eq_true] at h; done)
  rename_i o ps pos
  cases o <;> rcases ps with _ | ⟨p, _ | ⟨p2, ps⟩⟩ <;> try (simp [matE] at h; done)
  simp only [matE, Bool.and_eq_true] at h
  have a := hx X Wx sc _ k h.1.1
  have c := hy X Wx sc _ k h.2
  have w : PW X (.BoolOp .And (p :: p2 :: ps) pos) (tT X.K xr B Wx (evE b (callN T n) (.and x y))) := by
    refine (pw_and (a.pt h.1.2) (c.pw rfl)).weak fun σ H Q q => ?_
    obtain ⟨m, F, env, hq, S, q⟩ := q
    simp only [evE] at q
    refine ⟨m, F, env, hq, S, q.bind.mono fun w h1 m1 F1 H1 x1 S1 q => ?_⟩
    split at q
    · exact ⟨true, rfl, iteT ⟨m1, F1, env, h1, S1, q⟩⟩
    · obtain ⟨k, e, q⟩ := q m1 F1 H1 (.refl ..) S1
      cases e
      exact ⟨false, rfl, iteF q⟩
    · exact q.elim
  refine ⟨(pe_and a.pe c.pe).weak fun σ H Q q => ?_, fun _ => w.pt, fun _ => w⟩
  simp only [tE, evE] at q
  refine bind1 (ra := evE b (callN T n) x) q fun m F env hq H w v S r q => ?_
  split at q
  · have r : Dp X.K F v (.bool true) := r
    cases r
    exact ⟨true, rfl, iteT ⟨m, F, env, hq, S, q⟩⟩
  · have r : Dp X.K F v (.bool false) := r
    cases r
    exact ⟨false, rfl, iteF (PostE.now q S (.bl _))⟩
  · exact q.elim
theorem snd_or {x y : E} (hx : SndE M xr T n b B x) (hy : SndE M xr T n b B y) : SndE M xr T n b B (.or x y) := by
  intro X Wx sc p k h
  cases p <;> try (simp only [matE, Bool.false_eq_true] at h; done)
  rename_i o ps pos
  cases o <;> rcases ps with _ | ⟨p, _ | ⟨p2, ps⟩⟩ <;> try (simp [matE] at h; done)
  simp only [matE, Bool.and_eq_true] at h
  have a := hx X Wx sc _ k h.1.1
  have c := hy X Wx sc _ k h.2
  have w : PW X (.BoolOp .Or (p :: p2 :: ps) pos) (tT X.K xr B Wx (evE b (callN T n) (.or x y))) := by
    refine (pw_or (a.pt h.1.2) (c.pw rfl)).weak fun σ H Q q => ?_
    obtain ⟨m, F, env, hq, S, q⟩ := q
    simp only [evE] at q
    refine ⟨m, F, env, hq, S, q.bind.mono fun w h1 m1 F1 H1 x1 S1 q => ?_⟩
    split at q
    · obtain ⟨k, e, q⟩ := q m1 F1 H1 (.refl ..) S1
      cases e
      exact ⟨true, rfl, iteT q⟩
    · exact ⟨false, rfl, iteF ⟨m1, F1, env, h1, S1, q⟩⟩
    · exact q.elim
  refine ⟨(pe_or a.pe c.pe).weak fun σ H Q q => ?_, fun _ => w.pt, fun _ => w⟩
  simp only [tE, evE] at q
  refine bind1 (ra := evE b (callN T n) x) q fun m F env hq H w v S r q => ?_
  split at q
  · have r : Dp X.K F v (.bool true) := r
    cases r
    exact ⟨true, rfl, iteT (PostE.now q S (.bl _))⟩
  · have r : Dp X.K F v (.bool false) := r
    cases r
    exact ⟨false, rfl, iteF ⟨m, F, env, hq, S, q⟩⟩
  · exact q.elim
/-- a test, then one of two -/
theorem bindT1 {K : PySem.W.Frag} {Wx : WX} {ra : Vars → Hq → R W} {r1 r2 : Vars → Hq → R W} {σ : L2.St} {H : Hp} {Q : VK} (p : tE K xr B Wx (fun env h => (ra env h).bind fun v h => match v with
      | .d (.bool true) => r1 env h
      | .d (.bool false) => r2 env h
      | _ => .bad) σ H Q) : tIf (tT K xr B Wx ra) (tE K xr B Wx r1) (tE K xr B Wx r2) σ H Q := by
  obtain ⟨m, F, env, h, S, p⟩ := p
  refine ⟨m, F, env, h, S, p.bind.mono fun w h1 m1 F1 H1 x1 S1 p => ?_⟩
  split at p
  · exact ⟨true, rfl, iteT ⟨m1, F1, env, h1, S1, p⟩⟩
  · exact ⟨false, rfl, iteF ⟨m1, F1, env, h1, S1, p⟩⟩
  · exact p.elim
theorem snd_ife {c x y : E} (hc : SndE M xr T n b B c) (hx : SndE M xr T n b B x) (hy : SndE M xr T n b B y) : SndE M xr T n b B (.ife c x y) := by
  intro X Wx sc p k h
  cases p <;> simp only [matE, Bool.false_eq_true, Bool.and_eq_true] at h
  refine ⟨(pe_ifExp ((hc X Wx sc _ k h.1.1.1).pt h.1.1.2) (hx X Wx sc _ k h.1.2).pe (hy X Wx sc _ k h.2).pe).weak fun σ H Q q => ?_, (fun z => by cases z), (fun z => by cases z)⟩
  simp only [tE, evE] at q
  exact bindT1 q
theorem snd_idx {x i : E} (hx : SndE M xr T n b B x) (hi : SndE M xr T n b B i) : SndE M xr T n b B (.idx x i) := by
  intro X Wx sc p k h
  cases p <;> try (simp only [matE, Bool.false_eq_true] at h; done)
  rename_i pa pi pos
  simp only [matE, Bool.and_eq_true] at h
  have hp : PlainIx pi := by
    intro o i
    cases pi <;> first | rfl | (simp [notSlice] at h)
  exact SE.of_plain ((pe_ix (ix_E k.hw k.hu) (hx X Wx sc _ k h.1.2).pe (hi X Wx sc _ k h.2).pe hp).weak fun σ H Q q => tOp_read (f := fun a i h => evIdx h a i) σ H Q (by simpa only [tE, evE] using q)) (fun _ => rfl) rfl
/-- a part of a slice -/
def tOe (K : PySem.W.Frag) (xr : XRel) (B : List Nat) (Wx : WX) (f : Vars → Hq → R (Option W)) : TO := fun σ H Q => ∃ m F env h, SR K B m F env h σ H ∧ PostG K xr B Wx m F env σ H (f env h) (fun w _ m' F' H' => ∃ i, intO w = some i ∧ Q i H')
theorem po_of {X : Cx} {Wx : WX} {sc : Scope} {o : Oe} {p : Option Expr} (k : XOk X Wx M xr T n sc) (ho : ∀ e, o = .some e → SndE M xr T n b B e) (h : matOe M sc o p = true) : PO X p (tOe X.K xr B Wx (evOe b (callN T n) o)) := by
  cases o with
  | none =>
    cases p with
    | some _ => simp [matOe] at h
    | none =>
      refine ⟨fun pins s σ H Q I q => po_none.run pins s σ H Q I ?_⟩
      obtain ⟨m, F, env, hq, S, q⟩ := q
      obtain ⟨i, e, q⟩ := q m F H (.refl ..) S
      cases e
      exact q
  | some e =>
    cases p with
    | none => simp [matOe] at h
    | some p =>
      simp only [matOe] at h
      refine ⟨fun pins s σ H Q I q => (po_some (ho e rfl X Wx sc p k h).pe).run pins s σ H Q I ?_⟩
      obtain ⟨m, F, env, hq, S, q⟩ := q
      simp only [evOe] at q
      refine ⟨m, F, env, hq, S, q.bind.mono fun w h1 m1 F1 H1 x1 S1 q v rv => ?_⟩
      obtain ⟨i, e, q⟩ := q m1 F1 H1 (.refl ..) S1
      unfold intO at e
      split at e
      · rename_i e2; cases e2
      · rename_i j e2
        cases e2
        cases e
        have rv : Dp X.K F1 v (.int j) := rv
        cases rv
        exact ⟨j, rfl, q⟩
      · cases e
theorem snd_slc {x : E} {lo hi : Oe} (hx : SndE M xr T n b B x) (h1 : ∀ e, lo = .some e → SndE M xr T n b B e) (h2 : ∀ e, hi = .some e → SndE M xr T n b B e) : SndE M xr T n b B (.slc x lo hi) := by
  intro X Wx sc p k h
  cases p <;> try (simp only [matE, Bool.false_eq_true] at h; done)
  rename_i pa ps pos
  cases ps <;> try (simp [matE] at h; done)
  rename_i pl ph pst pos2
  cases pst <;> try (simp [matE] at h; done)
  simp only [matE, Bool.and_eq_true] at h
  refine SE.of_plain ((pe_slice (sl_E (xr := xr) (B := B) (Wx := Wx)) (hx X Wx sc _ k h.1.1).pe (po_of k h1 h.1.2) (po_of k h2 h.2)).weak fun σ H Q q => ?_) (fun _ => rfl) rfl
  obtain ⟨m, F, env, hq, S, q⟩ := q
  simp only [evE] at q
  refine ⟨m, F, env, hq, S, q.bind.mono fun w h1 m1 F1 H1 x1 S1 q v rv => ⟨m1, F1, env, h1, S1, q.bind.mono fun l h2 m2 F2 H2 x2 S2 q => ?_⟩⟩
  split at q
  · rename_i i ei
    refine ⟨i, ei, m2, F2, env, h2, S2, q.bind.mono fun u h3 m3 F3 H3 x3 S3 q => ?_⟩
    split at q
    · rename_i j ej
      exact ⟨j, ej, m3, F3, env, h3, σ, w, S3, wr_mono (x2.trans x3).ml (x2.trans x3).sub rv, q⟩
    · exact q.elim
  · exact q.elim
end
end Ev

/-! EvRv: xs[::-1] of lists and tuples. -/
namespace Ev
open PySem PySem.Spec PyProof.Rows HT
section
variable {prog : Program} {w : World} {A : Around} {E : Value → Shared → Prop} {s : Shared}
theorem places_rev (n : Nat) : Builtin.Slice.slicePlaces ((n : Int) - 1) (-1) (-1) = n := by
  unfold Builtin.Slice.slicePlaces
  rw [if_neg (by decide)]
  by_cases h : n = 0
  · subst h; rfl
  · rw [if_pos (by omega), show -(-1 : Int) = 1 from rfl, Int.ediv_one]
    omega
theorem sliceApplied_rev {sl : Addr} {vl vu vs : Value} {n : Nat} {Q : Int × Int × Nat → Shared → Prop} (hs : s.heap.IsSliceOf sl vl vu vs) (pl : IsPart vl none) (pu : IsPart vu none) (ps : IsPart vs (some (-1)))
    (h : Q ((n : Int) - 1, -1, n) s) : wpAny (model prog w) A (Builtin.Slice.sliceApplied (.ref sl) (pure (n : Int))) Q E s := by
  obtain ⟨os, hos, hcs, hds⟩ := id hs
  unfold Builtin.Slice.sliceApplied Builtin.Slice.sliceFields
  refine wpAny_bind (wpAny_bind (wpAny_field hos hds (x := vl) rfl (wpAny_bind (wpAny_field hos hds (x := vu) rfl (wpAny_bind (wpAny_field hos hds (x := vs) rfl (wpAny_pure ?_)))))))
  refine wpAny_bind (slicePart_ ps ?_)
  show wpAny _ _ (if ((-1 : Int) == 0) = true then _ else _) _ _ s
  rw [if_neg (by decide)]
  refine wpAny_bind (slicePart_ pl (wpAny_bind (slicePart_ pu (wpAny_bind (wpAny_pure ?_)))))
  show wpAny _ _ (pure ((n : Int) - 1, (-1 : Int), Builtin.Slice.slicePlaces ((n : Int) - 1) (-1) (-1))) _ _ s
  rw [places_rev]
  exact wpAny_pure h
theorem pick_rev (xs : Array Value) : ((List.range xs.size).filterMap fun (m : Nat) => xs[(((xs.size : Int) - 1) + (m : Int) * (-1)).toNat]?).toArray = xs.toList.reverse.toArray := by
  refine congrArg List.toArray ?_
  have e : (List.range xs.size).filterMap (fun (m : Nat) => xs[(((xs.size : Int) - 1) + (m : Int) * (-1)).toNat]?) = (List.range xs.size).filterMap (fun m => xs.toList.reverse[m]?) := by
    have fc : ∀ (l : List Nat) (f g : Nat → Option Value), (∀ m ∈ l, f m = g m) → l.filterMap f = l.filterMap g := fun l f g => by
      induction l with
      | nil => intro _; rfl
      | cons x l ih =>
        intro h
        rw [List.filterMap_cons, List.filterMap_cons, h x List.mem_cons_self, ih fun m hm => h m (List.mem_cons_of_mem _ hm)]
    refine fc _ _ _ fun m hm => ?_
    have hm := List.mem_range.mp hm
    have e1 : (((xs.size : Int) - 1) + (m : Int) * (-1)).toNat = xs.size - 1 - m := by omega
    rw [e1, List.getElem?_reverse (by simpa using hm), Array.length_toList, Array.getElem?_toList]
  rw [e]
  have g : ∀ l : List Value, (List.range l.length).filterMap (fun m => l[m]?) = l := fun l => by
    induction l with
    | nil => rfl
    | cons x l ih =>
      rw [List.length_cons, List.range_succ_eq_map, List.filterMap_cons]
      simp only [List.getElem?_cons_zero, List.filterMap_map]
      refine congrArg (x :: ·) ?_
      have : (fun m => (x :: l)[m]?) ∘ Nat.succ = fun m => l[m]? := by funext m; simp
      rw [this, ih]
  have := g xs.toList.reverse
  rw [List.length_reverse, Array.length_toList] at this
  exact this
theorem getItem_tuple_rev {t sl : Addr} {items : Array Value} {vl vu vs : Value} {Q : Value → Shared → Prop} (ht : IsTup s.heap t items) (hs : s.heap.IsSliceOf sl vl vu vs) (pl : IsPart vl none) (pu : IsPart vu none) (ps : IsPart vs (some (-1)))
    (h : Q (.ref s.heap.objs.size) { s with heap := s.heap.push { cls := .type "tuple", data := .seq items.toList.reverse.toArray } })
    (hsz : items.size ≤ sizeLine) : wpAny (model prog w) A (getItem (.ref t) (.ref sl)) Q E s := by
  have htake : sizeOk (.seq items.toList.reverse.toArray) := by
    show items.toList.reverse.toArray.size ≤ sizeLine
    rw [List.size_toArray, List.length_reverse, Array.length_toList]
    exact hsz
  obtain ⟨os, hos, hcs, hds⟩ := id hs
  have hTs : s.TypeIs (.ref sl) "slice" := ⟨os, hos, hcs⟩
  unfold getItem
  try with_reducible refine wpAny_holding ?_
  first | refine wpAny_bind (wpAny_pure ?_) | skip
  refine wpAny_bind (wpAny_sequenceKey ht.typeIs (by decide) ?_)
  refine wpAny_bind (wpAny_callSpecial?_slot (name := Str.ofString "__getitem__") ht.typeIs PyProof.Rows.slot_tuple_getitem
    (wpAny_call_entry PyProof.Rows.slot_tuple_getitem ht.typeIs entry_tuple_getitem ?_ (args_tuple_getitem _ _)))
  show wpAny _ _ (Builtin.Tuple.tupleItemsOf (.ref t) >>= _) _ _ s
  refine wpAny_bind (tupleItemsOf_ ht ?_)
  refine wpAny_bind (wpAny_typeOf hTs ?_)
  rw [if_pos (by decide)]
  refine wpAny_bind (sliceApplied_rev hs pl pu ps ?_)
  have hno : ¬ ((((items.size : Int) - 1) == 0 && (-1 : Int) == 1 && items.size == items.size) = true) := by
    intro q
    rw [Bool.and_eq_true, Bool.and_eq_true] at q
    exact absurd q.1.2 (by decide)
  show wpAny _ _ (if (((items.size : Int) - 1) == 0 && (-1 : Int) == 1 && items.size == items.size) = true then _ else _) _ _ s
  rw [if_neg hno, pick_rev]
  first
    | exact wpAny_bind (m := Builtin.Tuple.tupleExact _) (wpAny_newObj_type (wpAny_pure ⟨_, rfl, wpAny_pure h⟩) htake)
    | exact wpAny_bind (m := Builtin.Tuple.tupleExact _) (wpAny_newObj_type (wpAny_bind (wpAny_pure (wpAny_pure ⟨_, rfl, wpAny_pure h⟩))) htake)
    | exact wpAny_bind (wpAny_bind (m := Builtin.Tuple.tupleExact _) (wpAny_newObj_type (wpAny_pure (wpAny_pure ⟨_, rfl, wpAny_pure h⟩)) htake))
    | exact wpAny_bind (wpAny_bind (m := Builtin.Tuple.tupleExact _) (wpAny_newObj_type (wpAny_pure ⟨_, rfl, wpAny_pure h⟩) htake))
end
end Ev
namespace Ev
open PySem PySem.Spec PyProof.Rows L2
section
variable {X : Cx}
def tRevA (K : PySem.W.Frag) (te : TE) : TE := fun σ H Q => te σ H fun x H1 => ∃ a xs, x = .ref a ∧
  ((SqL K H1 a xs ∧ ∀ p, H1 p = none → Q (.ref p) (upd H1 p (.lst xs.reverse))) ∨ (SqT K H1 a xs ∧ ∀ p, H1 p = none → Q (.ref p) (upd H1 p (.tup xs.reverse))))
theorem pe_revA {e : Expr} {te : TE} {k : Nat} {p1 p2 p3 pos : Pos} (he : PE X e te) : PE X (.Subscript e (.Slice none none (some (.UnaryOp .USub (.Constant (.int 1) k p1) p2)) p3) pos) (tRevA X.K te) := by
  refine ⟨fun pins s σ H Q I h => ?_⟩
  refine Subscript_ (thn (he.run pins s σ H _ I h) fun v s1 ⟨x, H1, I1, r1, q1⟩ => ?_)
  obtain ⟨a, xs, ex, hx⟩ := q1
  subst ex
  cases r1
  have hst : PO X (some (.UnaryOp .USub (.Constant (.int 1) k p1) p2)) (tPart (tUn (rU fun i => .int (-i)) (tC (.int 1)))) := po_some (pe_un un_neg pe_int)
  refine wpAny_Slice (thn (po_none.run pins s1 σ H1 (fun o H2 => o = none ∧ H2 = H1) I1 ⟨rfl, rfl⟩) fun vl s2 ⟨l, H2, I2, pl, el, e2⟩ => ?_)
  subst el e2
  refine thn (po_none.run pins s2 σ H2 (fun o H3 => o = none ∧ H3 = H2) I2 ⟨rfl, rfl⟩) fun vu s3 ⟨u, H3, I3, pu, eu, e3⟩ => ?_
  subst eu e3
  refine thn (hst.run pins s3 σ H3 (fun o H4 => o = some (-1) ∧ H4 = H3) I3 ⟨1, rfl, -1, rfl, rfl, rfl⟩) fun vs s4 ⟨o, H4, I4, ps, eo, e4⟩ => ?_
  subst eo e4
  have I5 : Inv X pins σ H4 { s4 with heap := s4.heap.push { cls := .type "slice", data := .fields #[vl, vu, vs] } } := I4.kept (t' := s4.toks) fun b ob q => Heap.get?_push_of_some _ q
  show wpAny (model X.prog X.w) X.A (subscriptTail e (.Slice none none (some (.UnaryOp .USub (.Constant (.int 1) k p1) p2)) p3) (.ref a) (.ref s4.heap.objs.size)) (EP X pins σ Q) X.xe { s4 with heap := s4.heap.push { cls := .type "slice", data := .fields #[vl, vu, vs] } }
  rcases hx with ⟨hx, q⟩ | ⟨hx, q⟩
  · obtain ⟨its, r, ht, hz⟩ := I5.list hx
    have hlen := r.length
    refine tail_any (ops := [.ref a, .ref s4.heap.objs.size]) ht.isList.typeIs (PySem.slot_list_getitem.lookup) ?_ (by with_unfolding_all rfl)
    refine wpAny_getItem_list_slice ht.isList (Heap.IsSliceOf.new _ vl vu vs) pl pu ps (by decide) ?_ (by rw [List.size_toArray]; omega)
    rw [PySem.W.krv_pick]
    refine ⟨.ref _, _, I5.laid (t' := s4.toks) (o := .lst xs.reverse) (fun b ob q => Heap.get?_push_of_some _ q) (Nat.le_refl _) ?_, rfl, q _ (I5.hok.fresh (Nat.le_refl _))⟩
    exact ⟨by rw [List.length_reverse]; exact hz, _, 0, r.reverse, Heap.get?_push_size _ rfl⟩
  · obtain ⟨its, r, ht, hz⟩ := I5.tuple hx
    have hlen := r.length
    refine tail_any (ops := [.ref a, .ref s4.heap.objs.size]) ht.typeIs (PyProof.Rows.slot_tuple_getitem.lookup) ?_ (by with_unfolding_all rfl)
    refine getItem_tuple_rev ht (Heap.IsSliceOf.new _ vl vu vs) pl pu ps ?_ (by rw [List.size_toArray]; omega)
    refine ⟨.ref _, _, I5.laid (t' := s4.toks) (o := .tup xs.reverse) (fun b ob q => Heap.get?_push_of_some _ q) (Nat.le_refl _) ?_, rfl, q _ (I5.hok.fresh (Nat.le_refl _))⟩
    exact ⟨by rw [List.length_reverse]; exact hz, _, r.reverse, IsTup.new _ _⟩
end
section
variable [Wd]
variable {M : ME} {xr : XRel} {T : List FD} {n b : Nat} {B : List Nat}
theorem dps_reverse {K : PySem.W.Frag} {F : Hp} : ∀ {vs : List V} {ds : List PyData}, DpAll K F vs ds → DpAll K F vs.reverse ds.reverse := by
  have app : ∀ {vs vs2 : List V} {ds ds2 : List PyData}, DpAll K F vs ds → DpAll K F vs2 ds2 → DpAll K F (vs ++ vs2) (ds ++ ds2) := by
    intro vs
    induction vs with
    | nil => intro vs2 ds ds2 h h2; cases h; exact h2
    | cons v vs ih => intro vs2 ds ds2 h h2; cases h with | cons h1 h3 => exact .cons h1 (ih h3 h2)
  intro vs
  induction vs with
  | nil => intro ds h; cases h; exact .nil
  | cons v vs ih =>
    intro ds h
    cases h with
    | cons h1 h3 =>
      rw [List.reverse_cons, List.reverse_cons]
      exact app (ih h3) (.cons h1 .nil)
theorem snd_rev {x : E} (hx : SndE M xr T n b B x) : SndE M xr T n b B (.rev x) := by
  intro X Wx sc p k h
  cases p <;> try (simp only [matE, Bool.false_eq_true] at h; done)
  rename_i pa ps pos
  cases ps <;> try (simp [matE] at h; done)
  rename_i pl ph pst pos2
  cases pl <;> try (simp [matE] at h; done)
  cases ph <;> try (simp [matE] at h; done)
  cases pst <;> try (simp [matE] at h; done)
  rename_i pst
  cases pst <;> try (simp [matE] at h; done)
  rename_i o pc pos3
  cases o <;> try (simp [matE] at h; done)
  cases pc <;> try (simp [matE] at h; done)
  rename_i c k1 pos4
  cases c <;> try (simp [matE] at h; done)
  rename_i i
  by_cases hi : i = 1
  · subst hi
    simp only [matE] at h
    refine SE.of_plain ((pe_revA (hx X Wx sc _ k h).pe).weak fun σ H Q q => ?_) (fun _ => rfl) rfl
    simp only [tE, evE] at q
    refine bind1 (ra := evE b (callN T n) x) q fun m F env hq H w v S r q => ?_
    unfold evRev at q
    split at q
    · rename_i xs e
      obtain ⟨a, vs, rfl, sq, dd⟩ := (now_of S.hr r e).list S.hr.sub
      exact ⟨a, vs, rfl, .inl ⟨sq, fun p hp => PostE.newF q S hp (dp_newL S.hr hp (dps_reverse dd))⟩⟩
    · rename_i xs e
      obtain ⟨a, vs, rfl, sq, dd, dx⟩ := (now_of S.hr r e).tuple S.hr.sub
      exact ⟨a, vs, rfl, .inr ⟨sq, fun p hp => PostE.newF q S hp (dp_newT S.hr hp (dps_reverse dd))⟩⟩
    · exact q.elim
  · exact absurd h (by simp [matE, hi])
end
end Ev

/-! EvSt: sorted(tuple). -/
namespace Ev
open PySem PySem.Calls PyProof.Rows PySem.W
section
variable {prog : Program} {w : World} {A : Around} {E : Value → Shared → Prop} {s : Shared}
theorem collect_tup {l : Addr} {vs : List Value} {Q : List Value → Shared → Prop} (hl : IsTup s.heap l vs.toArray)
    (h : Q vs { s with heap := (s.heap.push (seqObj "list" #[] 0)).update s.heap.objs.size (Obj.mapSeq (· ++ vs.toArray)) }) (hsz : vs.length ≤ sizeLine := by size_fits) :
    wpAny (model prog w) A (collect (.ref l)) Q E s := by
  obtain ⟨o, ho, hc, n, hd⟩ := id hl
  unfold collect
  refine wpAny_bind (wpAny_runValue (codeAny_builtin entry_proto_collect' ?_))
  show wpAny _ _ (do again (.builtin "list.__iadd__" ⟨[← newList [], .ref l], []⟩)) _ _ s
  refine wpAny_bind (wpAny_newList (wpAny_pure ⟨Code.quiet_builtin _ (by decide +kernel), codeAny_builtin entry_list_iadd' ?_⟩))
  show wpAny _ _ (Builtin.List.listExtendWith (.ref s.heap.objs.size) (.ref l) (.ref s.heap.objs.size)) _ _ { s with heap := s.heap.push (seqObj "list" #[] 0) }
  unfold Builtin.List.listExtendWith
  have ho' : (s.heap.push (seqObj "list" #[] 0)).get? l = some o := Heap.get?_push_of_some _ ho
  refine wpAny_bind (wpAny_typeOf (T := "tuple") ⟨o, ho', hc⟩ ?_)
  have ht : (Value.type "tuple" == Value.type "tuple") = true := by rfl
  rw [if_pos (by rw [ht]; simp)]
  refine wpAny_bind (listItems_at ho' hd ?_)
  refine wpAny_bind (listItems_at (xs := #[]) (n := 0) (Heap.get?_push_size _ rfl) rfl ?_)
  rw [if_neg (by simp)]
  refine wpAny_bind (listUpdate_at (xs := #[]) (n := 0) (Heap.get?_push_size _ rfl) rfl ?_ (Nat.zero_le _) (by show (#[] ++ vs.toArray).size ≤ sizeLine + 1; simp only [Array.size_append, List.size_toArray, List.length_nil]; omega))
  refine wpAny_pure ?_
  show wpAny (model prog w) A (do
      let o ← load s.heap.objs.size
      match o.data with
      | .seq xs _ => pure xs.toList
      | _ => unsupported "internal:collect") Q E { s with heap := (s.heap.push (seqObj "list" #[] 0)).update s.heap.objs.size (Obj.mapSeq (· ++ vs.toArray)) }
  refine wpAny_bind (wpAny_load (get?_update_seq (Heap.get?_push_size _ rfl) _) ?_)
  show wpAny _ _ (pure ((#[] : Array Value) ++ vs.toArray).toList) Q E _
  rw [show ((#[] : Array Value) ++ vs.toArray).toList = vs by simp]
  exact wpAny_pure h
theorem sorted_of_sortT {l : Addr} {vs : List Value} {kw : List (Str × Value)} {Q : Value → Shared → Prop} (hl : IsTup s.heap l vs.toArray) (hL : vs.length ≤ sizeLine) (ha1 : argsOk "sorted" ⟨[.ref l], kw⟩) (ha2 : ∀ x, argsOk "list.sort" ⟨[.ref x], kw⟩)
    (body : ∀ E' : Value → Shared → Prop, wpAny (model prog w) A.in1.in1 (Builtin.«list.sort» ⟨[.ref (s.heap.objs.size + 1)], kw⟩) (fun f s' => f = .done (.ret .none) ∧ Q (.ref (s.heap.objs.size + 1)) s') E' { s with heap := copyHeap s.heap vs }) :
    wpAny (model prog w) A (call (.builtin "sorted") [.ref l] kw) Q E s := by
  refine call_function_entry_kw kind_sorted plain_sorted entry_sorted ha1 ?_
  unfold Builtin.«sorted»
  refine wpAny_bind (m := checkCount "sorted" 1 1 _) (wpAny_pure ?_)
  refine wpAny_bind (collect_tup hl ?_ hL)
  refine wpAny_bind (wpAny_newList ?_ hL)
  have hsz : ((s.heap.push (seqObj "list" #[] 0)).update s.heap.objs.size (Obj.mapSeq (· ++ vs.toArray))).objs.size = s.heap.objs.size + 1 := by
    rw [Heap.size_update, size_push']
  show wpAny _ _ _ _ _ { s with heap := copyHeap s.heap vs }
  rw [hsz]
  refine wpAny_bind (wpAny_holding (wpAny_call_entry_kw slot_list_sort ⟨_, copyHeap_at s.heap vs, rfl⟩ entry_list_sort ?body (ha2 _)))
  case body =>
    show wpAny (model prog w) A.in1.in1 (Builtin.«list.sort» ⟨[.ref (s.heap.objs.size + 1)], kw⟩) _ _ _
    refine wpAny_mono (body _) (fun f s' hf => ?_) fun _ _ e => e
    obtain ⟨rfl, hq⟩ := hf
    exact ⟨_, rfl, wpAny_pure ⟨_, rfl, hq⟩⟩
theorem sorted_valsT {κ : PyProof.Rows.KeyKind} {l : Addr} {vs : List Value} {Q : Value → Shared → Prop} (hl : IsTup s.heap l vs.toArray) (S : SortsAt prog w A.in1.in1 { s with heap := sortingHeap (copyHeap s.heap vs) (s.heap.objs.size + 1) vs } κ vs) (hL : vs.length ≤ sizeLine)
    (h : Q (.ref (s.heap.objs.size + 1)) { s with heap := sortedAll s.heap vs (sortVals κ false vs vs).toArray }) : wpAny (model prog w) A (call (.builtin "sorted") [.ref l]) Q E s :=
  sorted_of_sortT hl hL (args_sorted1 _) (fun _ => args_list_sort _) fun _ => list_sort_vals (s := { s with heap := copyHeap s.heap vs }) (copyHeap_at s.heap vs) S hL ⟨rfl, h⟩
theorem sorted_dataT {β : Type} {R : Value → β → Prop} {enc : β → PyData} {bs : List β} {vs : List Value} {l : Addr} {Q : Value → Shared → Prop} (hl : IsTup s.heap l vs.toArray) (e : EachIs R vs bs) (er : EachIs (fun v b => ∃ as, Reads s.heap v (enc b) as) vs bs) (hal : AllAlike (bs.map enc)) (hk : Sortable (bs.map enc)) (hL : bs.length ≤ sizeLine)
    (hu : ∀ b, b ∈ bs → A.units + 2 + (enc b).depth < cLine) (h : ∀ out, out.length = bs.length → EachIs R out (bs.mergeSort (dataLe false enc)) → Q (.ref (s.heap.objs.size + 1)) { s with heap := sortedAll s.heap vs (List.toArray out) }) :
    wpAny (model prog w) A (call (.builtin "sorted") [.ref l]) Q E s := by
  have er' : EachIs (fun v b => ∃ as, Reads (sortingHeap (copyHeap s.heap vs) (s.heap.objs.size + 1) vs) v (enc b) as) vs bs := er.mono fun _ _ ⟨as, r⟩ => ⟨as, PyProof.Rows.Reads.keeps (fun _ _ => sorting_copy_old) r⟩
  refine sorted_valsT hl (SortsAt.data (s := { s with heap := sortingHeap (copyHeap s.heap vs) (s.heap.objs.size + 1) vs }) (each_map (R := fun v d => ∃ as, Reads (sortingHeap (copyHeap s.heap vs) (s.heap.objs.size + 1) vs) v d as) enc er') hal hk (fun d hd => ?_)) (by rw [e.length]; exact hL)
    (h _ (by rw [sortVals_length false rfl]; exact e.length) (sortVals_data false e er' hal))
  obtain ⟨b, hb, rfl⟩ := List.mem_map.mp hd
  exact hu b hb
end
end Ev

/-! EvS: set(xs) of a list of ints, and sorted of it. -/
namespace Ev
open PySem PySem.Spec PyProof.Rows L2
/-- an empty set, as the model makes it -/
def oS (w : World) : Obj := { cls := .type "set", dict := none, data := .set #[] 0 (.fresh 0 0 (!w.params.followText "set-order")) }
section
variable {P : Program} {w : World} {A : Around} {E : Value → Shared → Prop} {s : Shared}
theorem new_oS {h : Heap} : (h.push (oS w)).get? h.objs.size = some (oS w) := Heap.get?_push_size _ rfl
theorem code_oS (a : Value) {Q : Value → Shared → Prop} (h : Q (.ref s.heap.objs.size) { s with heap := s.heap.push (oS w) }) :
    codeAny (model P w) A (.call (.builtin "set.__new__") ⟨[.type "set", a], []⟩) (wants Q E) s := code_set_led1 a h
set_option maxHeartbeats 3200000 in
theorem set_list {l : Addr} {xs : Array Value} (ns : List Int) {Q : Value → Shared → Prop} (hh : A.handled = none) (hl : s.heap.IsList l xs) (hit : IntsAre xs.toList ns) (hb : ns.length + 1 < scanBound)
    (h : ∀ (h' : Heap) (tk c : Nat), SetR w h' s.heap.objs.size (fun j => decide (j ∈ ns)) c → c ≤ ns.length → (∀ b o, s.heap.get? b = some o → h'.get? b = some o) → Q (.ref s.heap.objs.size) { s with heap := h', toks := tk }) :
    wpAny (model P w) A (call (.type "set") [.ref l]) Q E s := by
  have sz : xs.size = ns.length := by simpa using IntsAre.length hit
  have ⟨_, _, _⟩ := F.called_set.mro
  have m1 := F.called_set.made
  have m2 := F.called_set.sub
  have m3 := F.called_set.notType
  have m4 := F.called_set.canCreate
  have m5 := F.typeCall_set_1 (.ref l)
  refine wpAny_call (codeAny_of_tree (show wpAny _ _ (callAny (.type "set") _) _ _ _ from ?_))
  refine wpAny_pure ⟨Code.quiet_builtin _ (by decide +kernel), codeAny_builtin F.entry_type_call ?_⟩
  have hw := Around.under_plain (A := A) (weight_type_call_type "set" [.ref l] []) rfl
  rw [hw]
  repeat (any_goals (first | assumption | wp_step))
  refine codeAny_mono (code_oS (.ref l) (E := E) (Q := fun x z => x = .ref s.heap.objs.size ∧ z = { s with heap := s.heap.push (oS w) }) ⟨rfl, rfl⟩) fun r z hr => ?_
  rcases r with e | (x | _ | _ | _) <;> first | exact hr | exact hr.elim | skip
  obtain ⟨rfl, rfl⟩ := hr
  have isT : Shared.TypeIs { s with heap := s.heap.push (oS w) } (.ref s.heap.objs.size) "set" := ⟨_, new_oS, rfl⟩
  have i1 := F.called_set.init.lookup
  have i2 := F.called_set.init.bind (.ref s.heap.objs.size)
  repeat (any_goals (first | assumption | wp_step))
  refine codeAny_mono (codeAny_call_builtin (R := wants (fun r z => r = .none ∧ ∃ h' tk c, z = { s with heap := h', toks := tk } ∧ SetR w h' s.heap.objs.size (fun j => decide (j ∈ ns)) c ∧ c ≤ ns.length ∧ (∀ b o, s.heap.get? b = some o → h'.get? b = some o)) E)
    F.called_set.init.plain F.entry_set_init (check_set_init_1 isT ?_)) fun r z hz => ?_
  · obtain ⟨⟨cl, di, da, sl⟩, ho, e1, k, e2⟩ := hl
    simp only at e1 e2
    subst e1 e2
    have ho' : (s.heap.push (oS w)).get? l = some { cls := .type "list", dict := di, data := .seq xs k, slots := sl } := Heap.get?_push_of_some _ ho
    have f1 := F.sub_list_set
    have f2 := F.sub_list_frozenset
    have f3 : (Value.type "list" == Value.type "dict") = false := by decide
    have hl' : (s.heap.push (oS w)).IsList l xs := ⟨_, ho', rfl, k, rfl⟩
    unfold Builtin.«set.__init__» noKeywords Builtin.Frozenset.updateFrom
    generalize hPI : pyIter = PI
    wp_walk
    subst hPI
    refine wpAny_pyIter_list hl' (wpAny_bind (wpAny_runValue ?_))
    have lt : l < s.heap.objs.size := Heap.lt_size ho
    have sz1 : (s.heap.push (oS w)).objs.size = s.heap.objs.size + 1 := Heap.size_push ..
    refine set_update_ints ((Walks.list (show A.in1.in1.in1.handled = none by simp [hh]) _ l (by rw [sz1]; exact Nat.ne_of_lt (Nat.lt_succ_of_lt lt)) xs).toS) s.heap.objs.size
      (by simp only [List.mem_cons, List.not_mem_nil, or_false, not_or]; rw [sz1]; exact ⟨Nat.ne_of_lt (Nat.lt_succ_self _), Nat.ne_of_gt lt⟩) ns sz hb (fun i v hv => ?_) (xs.size - 0) 0 _ (by omega) (Nat.zero_le _)
      ⟨⟨_, Heap.get?_push_size _ rfl, rfl, rfl⟩, hl'.push _⟩ ⟨0, Nat.le_refl 0, setR_new_at (Heap.get?_push_of_some _ new_oS)⟩ ?_
    · have hi : i < ns.length := by rw [← sz]; exact (Array.getElem?_eq_some_iff.mp hv).1
      obtain ⟨t, e⟩ := IntsAre.int_at hit i v (by rw [Array.getElem?_toList]; exact hv)
      exact ⟨ns[i], t, List.getElem?_eq_getElem hi, by rw [e, List.getD_eq_getElem?_getD, List.getElem?_eq_getElem hi] <;> rfl⟩
    · rintro ⟨h', g2, d', tk', os'⟩ c hm hc hS
      obtain rfl : g2 = s.gens := hm.gens
      obtain rfl : d' = s.drawn := hm.drawn
      obtain rfl : os' = s.os := hm.os
      refine show wpAny _ _ _ _ _ _ from wpAny_pure (show wpAny _ _ (ret Value.none) _ _ _ from ?_)
      rw [sz] at hc
      refine wpAny_pure ⟨rfl, h', tk', c, rfl, hS, hc, fun b o e => ?_⟩
      have b0 : b < s.heap.objs.size := Heap.lt_size e
      refine hm.heap b o ?_ (Heap.get?_push_of_some _ (Heap.get?_push_of_some _ e))
      simp only [List.mem_cons, List.not_mem_nil, or_false, not_or]
      rw [sz1]
      exact ⟨Nat.ne_of_lt b0, Nat.ne_of_lt (Nat.lt_succ_of_lt b0)⟩
  · rcases r with e | (x | _ | _ | _) <;> first | exact hz | exact hz.elim | skip
    obtain ⟨rfl, h', tk, c, rfl, k1, k2, k3⟩ := hz
    repeat (any_goals (first | assumption | wp_step))
    exact h _ _ _ k1 k2 k3
end
section
variable {X : Cx}
/-- set(xs) of ints -/
theorem cr_setL : CallR X (.type "set") (fun vs H Q => X.calm = true ∧ ∃ (a : Addr) (ns : List Int), vs = [V.ref a] ∧ SqL X.K H a (ns.map V.int) ∧ ns.length < 4000 ∧ ∀ c p, c ≤ ns.length → H p = none → Q (.ref p) (upd H p (SetO X.w p (fun j => decide (j ∈ ns)) c))) := by
  intro pins s σ H vs us Q I r h
  obtain ⟨hc, a, ns, rfl, sq, hn, q⟩ := h
  obtain ⟨u, rfl, ru⟩ := vals1 r
  cases ru
  obtain ⟨its, rv, pl, _⟩ := I.list sq
  refine set_list ns (I.ok.hd hc) pl.isList (by simpa using rv.ints) (by unfold scanBound; omega) fun h' tk c R hle keep => ?_
  refine ⟨.ref s.heap.objs.size, _, I.laid (t' := tk) (o := SetO X.w s.heap.objs.size (fun j => decide (j ∈ ns)) c) keep (Nat.le_refl _) (setO_new R), rfl, q c _ hle (I.hok.fresh (Nat.le_refl _))⟩
end
end Ev

/-! EvY: repr, and the least, the greatest, the order of data of one kind. -/
namespace Ev
open PySem PySem.Spec L2
variable [Wd]
section
variable {K : PySem.W.Frag}
mutual
theorem dp_noDict {F : Hp} : ∀ (d : PyData) (v : V), Dp K F v d → d.hasDict = false
  | .none, _, _ => rfl
  | .bool b, _, _ => rfl
  | .int i, _, _ => rfl
  | .str x, _, _ => rfl
  | .list ds, _, h => by
    cases h with
    | lst hs ha => simp only [PyData.hasDict]; exact dps_noDict ds _ ha
  | .tuple ds, _, h => by
    cases h with
    | tup hs ha => simp only [PyData.hasDict]; exact dps_noDict ds _ ha
  | .dict _, _, h => by cases h
theorem dps_noDict {F : Hp} : ∀ (ds : List PyData) (vs : List V), DpAll K F vs ds → PyData.hasDictAll ds = false
  | [], _, _ => rfl
  | d :: ds, _, h => by
    cases h with
    | cons h1 h2 => simp only [PyData.hasDictAll, dp_noDict d _ h1, dps_noDict ds _ h2, Bool.or_self]
end
end
section
variable {X : Cx} {xr : XRel} {B : List Nat} {Wx : WX}
theorem shownP_ok {d r : PyData} (h : shownP d = some r) : r = .str d.shown ∧ d.showable = true ∧ d.depth ≤ 150 ∧ d.shown.length ≤ SZ := by
  unfold shownP at h
  split at h
  · rename_i hc
    simp only [Bool.and_eq_true, decide_eq_true_eq] at hc
    cases h
    exact ⟨rfl, hc.1, of_decide_eq_true hc.2.1, hc.2.2⟩
  · cases h
theorem cr_repr (gd : X.A.guards = some []) (hu : X.A.units + 200 < cLine) : CallR X (.builtin "repr") (rB X.K xr B Wx (evB .repr)) := by
  intro pins s σ H xs us Q I rs hq
  obtain ⟨m, F, env, h, σ', ws, S, r, p⟩ := hq
  match ws, r, p with
  | [w], r, p =>
    obtain ⟨v, rfl, r'⟩ := one_of r
    simp only [evB] at p
    obtain ⟨d, e, p⟩ := liftO_cases p
    rw [Option.bind_eq_some_iff] at e
    obtain ⟨x, e1, e2⟩ := e
    obtain ⟨rfl, hs, hd, hz⟩ := shownP_ok e2
    have q : Q (.str x.shown) H := PostE.now p S (.str _)
    have szE := sz_eq
    have dp := toDD_dp S.hr r' e1
    obtain ⟨u, rfl, ru⟩ := vals1 rs
    have nd := dp_noDict x _ dp
    obtain ⟨as, rd⟩ := Dp.reads I x v u dp ru
    have big : ∀ a, u = Value.ref a → wpAny (model X.prog X.w) X.A (call (.builtin "repr") [u]) (EP X pins σ Q) X.xe s := by
      intro a ea
      subst ea
      exact PySem.repr_of_reads' rd hs (fun z => by rw [nd] at z; cases z) gd (by omega) (fun _ _ z => z) (fun h' t tk k => ⟨.str x.shown, H, I.kept (t' := tk) k, ⟨_, rfl⟩, q⟩) (by omega)
    cases x
    case none => cases dp; cases ru; exact PySem.P.repr_of_none ⟨.str _, H, I.tok _, ⟨_, rfl⟩, q⟩
    case bool b => cases dp; cases ru; exact PySem.P.repr_of_bool ⟨.str _, H, I.tok _, ⟨_, rfl⟩, q⟩
    case int i =>
      cases dp
      obtain ⟨t, rfl⟩ := ru
      exact PySem.P.repr_of_int (by simpa [PyData.showable] using hs) ⟨.str _, H, I.tok _, ⟨_, rfl⟩, q⟩
    case str z =>
      cases dp
      obtain ⟨t, rfl⟩ := ru
      exact PySem.P.repr_of_str ⟨.str _, H, I.tok _, ⟨_, rfl⟩, q⟩ (by simp only [PyData.shown] at hz; omega)
    case list ds =>
      cases dp
      exact big _ ru
    case tuple ds =>
      cases dp
      exact big _ ru
    case dict ds => cases dp
  | [], _, p => exact p.elim
  | _ :: _ :: _, _, p => exact p.elim
/-- an item that reads as one of the data is that datum -/
theorem item_of {K : PySem.W.Frag} {pins : List (Addr × Obj)} {σ : L2.St} {F H : Hp} {s : Shared} (hK : X.K = K) (I : Inv X pins σ H s) (le : HpLe F H) {vs : List V} {ds : List PyData} {its : List Value} (dd : DpAll K F vs ds) (rv : Vals vs its) {i : Nat} {u : Value} {z : PyData} {h' : Heap} {bs : List Addr}
    (hv : its[i]? = some u) (hr : Reads h' u z bs) (hk : ∀ b o, s.heap.get? b = some o → h'.get? b = some o) (hz : z.plain = true) : ∃ v, RelV v u ∧ Dp K F v z := by
  subst hK
  have hi : i < vs.length := by rw [rv.length]; exact (List.getElem?_eq_some_iff.mp hv).1
  obtain ⟨u', e1, ru⟩ := rv.get (i := i) (x := vs[i]) (by simp [hi])
  rw [hv] at e1
  cases e1
  have hd : i < ds.length := by rw [← dd.length]; exact hi
  obtain ⟨v, e2, dv⟩ := dd.get (i := i) (x := ds[i]) (by simp [hd])
  have e3 : vs[i] = v := by
    have : vs[i]? = some vs[i] := by simp [hi]
    rw [this] at e2
    exact Option.some.inj e2
  rw [e3] at ru
  obtain ⟨as, rd⟩ := Dp.reads I ds[i] v u (dp_mono le _ _ dv) ru
  have a1 := SeqAt.readOf_plain (dp_plain _ _ dv) (PyProof.Rows.Reads.keeps hk rd)
  have a2 := SeqAt.readOf_plain hz hr
  have : z = ds[i] := by rw [← a2, a1]
  rw [this]
  exact ⟨v, ru, dv⟩
theorem minD_mem (x : PyData) : ∀ r : List PyData, PySem.W.minD x r ∈ x :: r := by
  intro r
  unfold PySem.W.minD
  induction r generalizing x with
  | nil => simp
  | cons y r ih =>
    rw [List.foldl_cons]
    have := ih (if PySem.W.dataLt y x = true then y else x)
    rcases List.mem_cons.mp this with e | e
    · rw [e]
      split <;> simp
    · exact List.mem_cons_of_mem _ (List.mem_cons_of_mem _ e)
theorem maxD_mem (x : PyData) : ∀ r : List PyData, PySem.W.maxD x r ∈ x :: r := by
  intro r
  unfold PySem.W.maxD
  induction r generalizing x with
  | nil => simp
  | cons y r ih =>
    rw [List.foldl_cons]
    have := ih (if PySem.W.dataLt x y = true then y else x)
    rcases List.mem_cons.mp this with e | e
    · rw [e]
      split <;> simp
    · exact List.mem_cons_of_mem _ (List.mem_cons_of_mem _ e)
theorem plain_mem : ∀ {ds : List PyData} {z : PyData}, PyData.plainAll ds = true → z ∈ ds → z.plain = true
  | [], _, _, h => by simp at h
  | d :: ds, z, e, h => by
    simp only [PyData.plainAll, Bool.and_eq_true] at e
    rcases List.mem_cons.mp h with rfl | h
    · exact e.1
    · exact plain_mem e.2 h
theorem notNo_ok {x : PyData} (h : notNo x = true) : x ≠ .none := by
  intro e; subst e; simp [notNo] at h
theorem alkAll_ok {xs : List PyData} (h : alkAll xs = true) : PySem.W.AlikeAll xs := by
  unfold alkAll at h
  simp only [List.all_eq_true, Bool.and_eq_true] at h
  exact ⟨fun x hx y hy => (h x hx).2 y hy, fun x hx => notNo_ok (h x hx).1⟩
theorem intsOf_eq : ∀ {ds : List PyData} {ns : List Int}, intsOf ds = some ns → ds = ns.map .int
  | [], _, e => by simp [intsOf] at e; subst e; rfl
  | d :: ds, _, e => by
    cases d <;> simp only [intsOf, reduceCtorEq] at e
    rw [Option.map_eq_some_iff] at e
    obtain ⟨ns, e, rfl⟩ := e
    rw [intsOf_eq e]
    rfl
theorem alike_intsA (ns : List Int) : PySem.W.AlikeAll (ns.map .int) := by
  refine ⟨fun x hx y hy => ?_, fun x hx => ?_⟩
  · obtain ⟨a, _, rfl⟩ := List.mem_map.mp hx
    obtain ⟨b, _, rfl⟩ := List.mem_map.mp hy
    simp [PySem.W.alike]
  · obtain ⟨a, _, rfl⟩ := List.mem_map.mp hx
    simp
theorem seq_now {m : List Addr} {F H : Hp} {h : Hq} (S : HR X.K B m F h H) {w : W} {v : V} {d : PyData} {xs : List PyData} (r : WR X.K m F v w) (e : toD h w = some d) (e2 : seqOf d = some xs) :
    ∃ a vs, v = .ref a ∧ DpAll X.K F vs xs ∧ (SqL X.K H a vs ∨ SqT X.K H a vs) := by
  cases d <;> simp only [seqOf, reduceCtorEq] at e2
  · cases e2
    obtain ⟨a, vs, rfl, sq, dd⟩ := (now_of S r e).list S.sub
    exact ⟨a, vs, rfl, dd, .inl sq⟩
  · cases e2
    obtain ⟨a, vs, rfl, sq, dd, _⟩ := (now_of S r e).tuple S.sub
    exact ⟨a, vs, rfl, dd, .inr sq⟩
theorem foldMax_ok : ∀ (ns : List Int) (n : Int), ns.foldl max n ∈ n :: ns ∧ ∀ y ∈ n :: ns, y ≤ ns.foldl max n
  | [], n => by simp
  | k :: ns, n => by
    obtain ⟨h1, h2⟩ := foldMax_ok ns (max n k)
    rw [List.foldl_cons]
    refine ⟨?_, fun y hy => ?_⟩
    · rcases List.mem_cons.mp h1 with e | e
      · rw [e]
        by_cases q : k ≤ n
        · rw [Int.max_eq_left q]; simp
        · rw [Int.max_eq_right (by omega)]; simp
      · simp [e]
    · have hb := h2 (max n k) List.mem_cons_self
      rcases List.mem_cons.mp hy with e | hy
      · subst e; have := Int.le_max_left y k; omega
      · rcases List.mem_cons.mp hy with e | hy
        · subst e; have := Int.le_max_right n y; omega
        · exact h2 y (List.mem_cons_of_mem _ hy)
theorem foldMin_ok : ∀ (ns : List Int) (n : Int), ns.foldl min n ∈ n :: ns ∧ ∀ y ∈ n :: ns, ns.foldl min n ≤ y
  | [], n => by simp
  | k :: ns, n => by
    obtain ⟨h1, h2⟩ := foldMin_ok ns (min n k)
    rw [List.foldl_cons]
    refine ⟨?_, fun y hy => ?_⟩
    · rcases List.mem_cons.mp h1 with e | e
      · rw [e]
        by_cases q : n ≤ k
        · rw [Int.min_eq_left q]; simp
        · rw [Int.min_eq_right (by omega)]; simp
      · simp [e]
    · have hb := h2 (min n k) List.mem_cons_self
      rcases List.mem_cons.mp hy with e | hy
      · subst e; have := Int.min_le_left y k; omega
      · rcases List.mem_cons.mp hy with e | hy
        · subst e; have := Int.min_le_right n y; omega
        · exact h2 y (List.mem_cons_of_mem _ hy)
theorem maxI_ok : ∀ {ns : List Int} {m : Int}, maxI ns = some m → m ∈ ns ∧ ∀ y ∈ ns, y ≤ m
  | [], _, h => by cases h
  | n :: ns, m, h => by
    unfold maxI at h
    cases e : maxI ns with
    | none =>
      rw [e] at h
      cases h
      have : ns = [] := by
        cases ns with
        | nil => rfl
        | cons x l => unfold maxI at e; split at e <;> cases e
      subst this
      simp
    | some k =>
      rw [e] at h
      cases h
      obtain ⟨h1, h2⟩ := maxI_ok e
      split
      · refine ⟨by simp, fun y hy => ?_⟩
        rcases List.mem_cons.mp hy with e | hy
        · omega
        · have := h2 y hy; omega
      · refine ⟨by simp [h1], fun y hy => ?_⟩
        rcases List.mem_cons.mp hy with e | hy
        · omega
        · exact h2 y hy
theorem minI_ok : ∀ {ns : List Int} {m : Int}, minI ns = some m → m ∈ ns ∧ ∀ y ∈ ns, m ≤ y
  | [], _, h => by cases h
  | n :: ns, m, h => by
    unfold minI at h
    cases e : minI ns with
    | none =>
      rw [e] at h
      cases h
      have : ns = [] := by
        cases ns with
        | nil => rfl
        | cons x l => unfold minI at e; split at e <;> cases e
      subst this
      simp
    | some k =>
      rw [e] at h
      cases h
      obtain ⟨h1, h2⟩ := minI_ok e
      split
      · refine ⟨by simp, fun y hy => ?_⟩
        rcases List.mem_cons.mp hy with e | hy
        · omega
        · have := h2 y hy; omega
      · refine ⟨by simp [h1], fun y hy => ?_⟩
        rcases List.mem_cons.mp hy with e | hy
        · omega
        · exact h2 y hy
theorem maxP_ok {xs : List PyData} {r : PyData} (h : maxP xs = some r) : ∃ x l, xs = x :: l ∧ PySem.W.AlikeAll xs ∧ PyData.depthAll xs ≤ 150 ∧ r = PySem.W.maxD x l := by
  unfold maxP at h
  split at h
  · rename_i ns e
    have e := intsOf_eq e
    subst e
    rw [Option.map_eq_some_iff] at h
    obtain ⟨k, e, rfl⟩ := h
    obtain ⟨h1, h2⟩ := maxI_ok e
    cases ns with
    | nil => simp at h1
    | cons n ns =>
      refine ⟨_, _, rfl, alike_intsA _, by rw [PySem.W.depth_ints]; omega, ?_⟩
      rw [PySem.W.maxD_ints]
      obtain ⟨g1, g2⟩ := foldMax_ok ns n
      have a := h2 _ g1
      have b := g2 _ h1
      have : k = ns.foldl max n := by omega
      rw [this]
  · split at h
    · cases h
    · rename_i x l _
      split at h
      · rename_i hc
        simp only [Bool.and_eq_true] at hc
        cases h
        exact ⟨x, l, rfl, alkAll_ok hc.1, of_decide_eq_true hc.2, rfl⟩
      · cases h
theorem minP_ok {xs : List PyData} {r : PyData} (h : minP xs = some r) : ∃ x l, xs = x :: l ∧ PySem.W.AlikeAll xs ∧ PyData.depthAll xs ≤ 150 ∧ r = PySem.W.minD x l := by
  unfold minP at h
  split at h
  · rename_i ns e
    have e := intsOf_eq e
    subst e
    rw [Option.map_eq_some_iff] at h
    obtain ⟨k, e, rfl⟩ := h
    obtain ⟨h1, h2⟩ := minI_ok e
    cases ns with
    | nil => simp at h1
    | cons n ns =>
      refine ⟨_, _, rfl, alike_intsA _, by rw [PySem.W.depth_ints]; omega, ?_⟩
      rw [PySem.W.minD_ints]
      obtain ⟨g1, g2⟩ := foldMin_ok ns n
      have a := h2 _ g1
      have b := g2 _ h1
      have : k = ns.foldl min n := by omega
      rw [this]
  · split at h
    · cases h
    · rename_i x l _
      split at h
      · rename_i hc
        simp only [Bool.and_eq_true] at hc
        cases h
        exact ⟨x, l, rfl, alkAll_ok hc.1, of_decide_eq_true hc.2, rfl⟩
      · cases h
theorem two_of {m : List Addr} {F : Hp} {vs : List V} {w w2 : W} (r : WRs X.K m F vs [w, w2]) : ∃ v v2, vs = [v, v2] ∧ WR X.K m F v w ∧ WR X.K m F v2 w2 := by
  cases r with
  | cons r1 r2 =>
    cases r2 with
    | cons r2 r3 =>
      cases r3
      exact ⟨_, _, rfl, r1, r2⟩
theorem cr_maxE (hc : X.calm = true) (hu : X.A.units + 200 < cLine) : CallR X (.builtin "max") (rB X.K xr B Wx (evB .max)) := by
  intro pins s σ H xs us Q I rs hq
  obtain ⟨m, F, env, h, σ', ws, S, r, p⟩ := hq
  match ws, r, p with
  | [w], r, p =>
    obtain ⟨v, rfl, r'⟩ := one_of r
    simp only [evB] at p
    obtain ⟨d, e, p⟩ := liftO_cases p
    rw [Option.bind_eq_some_iff] at e
    obtain ⟨ds, e, ex⟩ := e
    rw [Option.bind_eq_some_iff] at e
    obtain ⟨d0, e, eds⟩ := e
    obtain ⟨a, vs, rfl, dd, sq⟩ := seq_now S.hr r' e eds
    obtain ⟨x, l, rfl, al, hd, rfl⟩ := maxP_ok ex
    obtain ⟨u, rfl, ru⟩ := vals1 rs
    cases ru
    have pl := dps_plain _ _ dd
    have hz := plain_mem pl (maxD_mem x l)
    have dd' := dps_mono S.hr.sub _ _ dd
    rcases sq with sq | sq
    · obtain ⟨its, rv, hl, _⟩ := I.list sq
      obtain ⟨as, h4⟩ := Dp.readsAll I (x :: l) vs its dd' rv
      refine PySem.W.max_list_data (vs := its.toArray) (I.ok.hd hc) hl.isList (by simpa using h4) al (by omega) fun i u h' tk bs hv hr hk => ?_
      obtain ⟨v, rvu, dv⟩ := item_of rfl I S.hr.sub dd rv (by simpa using hv) hr hk hz
      exact ⟨v, H, I.kept (t' := tk) hk, rvu, PostE.now p S dv⟩
    · obtain ⟨its, rv, hl, _⟩ := I.tuple sq
      obtain ⟨as, h4⟩ := Dp.readsAll I (x :: l) vs its dd' rv
      refine PySem.W.max_tuple_data (vs := its.toArray) (I.ok.hd hc) (show s.heap.IsTuple a its.toArray from hl) (by simpa using h4) al (by omega) fun i u h' tk bs hv hr hk => ?_
      obtain ⟨v, rvu, dv⟩ := item_of rfl I S.hr.sub dd rv (by simpa using hv) hr hk hz
      exact ⟨v, H, I.kept (t' := tk) hk, rvu, PostE.now p S dv⟩
  | [], _, p => exact p.elim
  | [w, w2], r, p =>
    cases w with
    | l _ => exact (show False by simpa [evB, PostG] using p).elim
    | d d =>
      cases d <;> try exact (show False by simpa [evB, PostG] using p).elim
      rename_i i
      cases w2 with
      | l _ => exact (show False by simpa [evB, PostG] using p).elim
      | d e =>
        cases e <;> try exact (show False by simpa [evB, PostG] using p).elim
        rename_i j
        obtain ⟨v, v2, rfl, r1, r2⟩ := two_of r
        have r1 : Dp X.K F v (.int i) := r1
        have r2 : Dp X.K F v2 (.int j) := r2
        cases r1; cases r2
        exact call_max2 hc pins s σ H _ us Q I rs ⟨i, j, rfl, PostE.now p S (.int _)⟩
  | _ :: _ :: _ :: _, _, p => exact (show False by simpa [evB, PostG] using p).elim
theorem cr_minE (hc : X.calm = true) (hu : X.A.units + 200 < cLine) : CallR X (.builtin "min") (rB X.K xr B Wx (evB .min)) := by
  intro pins s σ H xs us Q I rs hq
  obtain ⟨m, F, env, h, σ', ws, S, r, p⟩ := hq
  match ws, r, p with
  | [w], r, p =>
    obtain ⟨v, rfl, r'⟩ := one_of r
    simp only [evB] at p
    obtain ⟨d, e, p⟩ := liftO_cases p
    rw [Option.bind_eq_some_iff] at e
    obtain ⟨ds, e, ex⟩ := e
    rw [Option.bind_eq_some_iff] at e
    obtain ⟨d0, e, eds⟩ := e
    obtain ⟨a, vs, rfl, dd, sq⟩ := seq_now S.hr r' e eds
    obtain ⟨x, l, rfl, al, hd, rfl⟩ := minP_ok ex
    obtain ⟨u, rfl, ru⟩ := vals1 rs
    cases ru
    have pl := dps_plain _ _ dd
    have hz := plain_mem pl (minD_mem x l)
    have dd' := dps_mono S.hr.sub _ _ dd
    rcases sq with sq | sq
    · obtain ⟨its, rv, hl, _⟩ := I.list sq
      obtain ⟨as, h4⟩ := Dp.readsAll I (x :: l) vs its dd' rv
      refine PySem.W.min_list_data (vs := its.toArray) (I.ok.hd hc) hl.isList (by simpa using h4) al (by omega) fun i u h' tk bs hv hr hk => ?_
      obtain ⟨v, rvu, dv⟩ := item_of rfl I S.hr.sub dd rv (by simpa using hv) hr hk hz
      exact ⟨v, H, I.kept (t' := tk) hk, rvu, PostE.now p S dv⟩
    · obtain ⟨its, rv, hl, _⟩ := I.tuple sq
      obtain ⟨as, h4⟩ := Dp.readsAll I (x :: l) vs its dd' rv
      refine PySem.W.min_tuple_data (vs := its.toArray) (I.ok.hd hc) (show s.heap.IsTuple a its.toArray from hl) (by simpa using h4) al (by omega) fun i u h' tk bs hv hr hk => ?_
      obtain ⟨v, rvu, dv⟩ := item_of rfl I S.hr.sub dd rv (by simpa using hv) hr hk hz
      exact ⟨v, H, I.kept (t' := tk) hk, rvu, PostE.now p S dv⟩
  | [], _, p => exact p.elim
  | [w, w2], r, p =>
    cases w with
    | l _ => exact (show False by simpa [evB, PostG] using p).elim
    | d d =>
      cases d <;> try exact (show False by simpa [evB, PostG] using p).elim
      rename_i i
      cases w2 with
      | l _ => exact (show False by simpa [evB, PostG] using p).elim
      | d e =>
        cases e <;> try exact (show False by simpa [evB, PostG] using p).elim
        rename_i j
        obtain ⟨v, v2, rfl, r1, r2⟩ := two_of r
        have r1 : Dp X.K F v (.int i) := r1
        have r2 : Dp X.K F v2 (.int j) := r2
        cases r1; cases r2
        exact call_min2 hc pins s σ H _ us Q I rs ⟨i, j, rfl, PostE.now p S (.int _)⟩
  | _ :: _ :: _ :: _, _, p => exact (show False by simpa [evB, PostG] using p).elim
theorem sortI_eq {ns ms : List Int} (h : ms.Perm ns) (p : ms.Pairwise (· ≤ ·)) : ms = sortI ns := by
  refine List.Perm.eq_of_pairwise (le := (· ≤ ·)) (fun a b _ _ h1 h2 => Int.le_antisymm h1 h2) p ?_ (h.trans (List.mergeSort_perm _ _).symm)
  have := List.pairwise_mergeSort (le := fun (a b : Int) => decide (a ≤ b)) (fun a b c h1 h2 => by simp only [decide_eq_true_eq] at *; omega) (fun a b => by simp only [Bool.or_eq_true, decide_eq_true_eq]; omega) ns
  exact this.imp fun h => of_decide_eq_true h
theorem dp_ints {K : PySem.W.Frag} {F : Hp} : ∀ ns : List Int, DpAll K F (ns.map V.int) (ns.map .int)
  | [] => .nil
  | n :: ns => .cons (.int n) (dp_ints ns)
theorem srtAll_ok {xs : List PyData} (h : srtAll xs = true) : PySem.W.Sortable xs := by
  unfold srtAll at h
  rw [Bool.or_eq_true, List.all_eq_true, List.all_eq_true] at h
  rcases h with h | h
  · refine .inl fun d hd => ?_
    have := h d hd
    cases d <;> try (simp at this; done)
    rename_i ys
    cases ys with
    | nil => simp at this
    | cons y ys => exact ⟨y, ys, rfl⟩
  · refine .inr fun d hd => ?_
    have := h d hd
    cases d <;> simp at this <;> simp
theorem each_dp {F : Hp} : ∀ {vs : List V} {ds : List PyData} {its : List Value}, DpAll X.K F vs ds → Vals vs its → PySem.W.EachIs (fun u d => ∃ v, RelV v u ∧ Dp X.K F v d) its ds
  | _, _, _, .nil, .nil => .nil
  | _, _, _, .cons h1 h2, .cons r1 r2 => .cons ⟨_, r1, h1⟩ (each_dp h2 r2)
theorem dp_each {F : Hp} : ∀ {ds : List PyData} {its : List Value}, PySem.W.EachIs (fun u d => ∃ v, RelV v u ∧ Dp X.K F v d) its ds → ∃ vs, Vals vs its ∧ DpAll X.K F vs ds
  | _, _, .nil => ⟨[], .nil, .nil⟩
  | _, _, .cons ⟨v, h1, h2⟩ t => by
    obtain ⟨vs, r, d⟩ := dp_each t
    exact ⟨v :: vs, .cons h1 r, .cons h2 d⟩
theorem depth_mem : ∀ {ds : List PyData} {d : PyData}, d ∈ ds → d.depth ≤ PyData.depthAll ds
  | [], _, h => by simp at h
  | x :: ds, d, h => by
    simp only [PyData.depthAll]
    rcases List.mem_cons.mp h with rfl | h
    · omega
    · have := depth_mem h; omega
theorem cr_sortedE (hu : X.A.units + 200 < cLine) : CallR X (.builtin "sorted") (rB X.K xr B Wx (evB .sorted)) := by
  intro pins s σ H xs us Q I rs hq
  obtain ⟨m, F, env, h, σ', ws, S, r, p⟩ := hq
  match ws, r, p with
  | [w], r, p =>
    obtain ⟨v, rfl, r'⟩ := one_of r
    simp only [evB] at p
    obtain ⟨d, e, p⟩ := liftO_cases p
    rw [Option.map_eq_some_iff] at e
    obtain ⟨ys, e, rfl⟩ := e
    rw [Option.bind_eq_some_iff] at e
    obtain ⟨ds, e, es⟩ := e
    rw [Option.bind_eq_some_iff] at e
    obtain ⟨d0, e, eds⟩ := e
    cases d0 <;> simp only [seqOf, reduceCtorEq] at eds
    case list ds0 =>
      cases eds
      obtain ⟨a, vs, rfl, sq, dd⟩ := (now_of S.hr r' e).list S.hr.sub
      unfold sortP at es
      split at es
      · rename_i ns ei
        cases es
        have ei := intsOf_eq ei
        subst ei
        have im : ∀ ns : List Int, intsOf (ns.map .int) = some ns := fun ns => by
          induction ns with
          | nil => rfl
          | cons n ns ih => simp only [List.map_cons, intsOf, ih]; rfl
        have ev : vs = ns.map V.int := ints_vs dd (im ns)
        subst ev
        refine cr_sortedI pins s σ H _ us Q I rs ⟨a, ns, rfl, sq, fun ms q hp hs hn => ?_⟩
        rw [sortI_eq hp hs]
        exact PostE.newF p S hn (.lst sq_new (dp_ints _))
      · split at es
        · rename_i hc
          cases es
          simp only [Bool.and_eq_true] at hc
          obtain ⟨⟨h1, h2⟩, h3⟩ := hc
          have h3 : PyData.depthAll ds ≤ 150 := of_decide_eq_true h3
          obtain ⟨u, rfl, ru⟩ := vals1 rs
          cases ru
          obtain ⟨its, rv, hl, hz⟩ := I.list sq
          have dd' := dps_mono S.hr.sub _ _ dd
          obtain ⟨as, h4⟩ := Dp.readsAll I ds vs its dd' rv
          have hid : ds.map (id : PyData → PyData) = ds := List.map_id ds
          have hlen := dd.length
          refine PySem.W.sorted_data (enc := (id : PyData → PyData)) (vs := its) hl.isList (each_dp dd rv) (PySem.W.readsAll_each id (by rw [hid]; exact h4)) ?_ (by rw [hid]; exact srtAll_ok h2) (by omega) (fun b hb => ?_) fun out ho he => ?_
          · rw [hid]
            have := alkAll_ok h1
            exact fun d hd d' hd' => this.1 d hd d' hd'
          · have := depth_mem hb
            simp only [id]
            omega
          · obtain ⟨vs2, rv2, dd2⟩ := dp_each he
            obtain ⟨ep, he'⟩ := PyProof.Rows.sortedAll_at s.heap its out.toArray
            have hfree := I.hok.fresh (Nat.le_succ s.heap.objs.size)
            refine ⟨.ref _, upd H (s.heap.objs.size + 1) (.lst vs2), I.laid (t' := s.toks) (fun _ _ => PyProof.Rows.sortedAll_old) (Nat.le_succ _) ⟨?_, out, ep, rv2, he'⟩, rfl, PostE.newF p S hfree (dp_newL S.hr hfree dd2)⟩
            rw [rv2.length, ho]
            omega
        · cases es
    case tuple ds0 =>
      cases eds
      obtain ⟨a, vs, rfl, sq, dd, _⟩ := (now_of S.hr r' e).tuple S.hr.sub
      obtain ⟨u, rfl, ru⟩ := vals1 rs
      cases ru
      obtain ⟨its, rv, hl, hz⟩ := I.tuple sq
      have dd' := dps_mono S.hr.sub _ _ dd
      obtain ⟨as, h4⟩ := Dp.readsAll I ds vs its dd' rv
      have hid : ds.map (id : PyData → PyData) = ds := List.map_id ds
      have hlen := dd.length
      have go : PySem.W.AllAlike ds → PySem.W.Sortable ds → (∀ b ∈ ds, b.depth ≤ 150) → ds.mergeSort (PySem.W.dataLe false id) = ys → wpAny (model X.prog X.w) X.A (call (.builtin "sorted") [.ref a]) (EP X pins σ Q) X.xe s := fun c1 c2 c3 c4 => by
        refine sorted_dataT (enc := (id : PyData → PyData)) (vs := its) hl (each_dp dd rv) (PySem.W.readsAll_each id (by rw [hid]; exact h4)) (by rw [hid]; exact c1) (by rw [hid]; exact c2) (by omega) (fun b hb => ?_) fun out ho he => ?_
        · have := c3 b hb
          simp only [id]
          omega
        · rw [c4] at he
          obtain ⟨vs2, rv2, dd2⟩ := dp_each he
          obtain ⟨ep, he'⟩ := PyProof.Rows.sortedAll_at s.heap its out.toArray
          have hfree := I.hok.fresh (Nat.le_succ s.heap.objs.size)
          refine ⟨.ref _, upd H (s.heap.objs.size + 1) (.lst vs2), I.laid (t' := s.toks) (fun _ _ => PyProof.Rows.sortedAll_old) (Nat.le_succ _) ⟨?_, out, ep, rv2, he'⟩, rfl, PostE.newF p S hfree (dp_newL S.hr hfree dd2)⟩
          rw [rv2.length, ho]
          omega
      unfold sortP at es
      split at es
      · rename_i ns ei
        cases es
        have ei := intsOf_eq ei
        subst ei
        refine go ?_ (.inr fun d hd => ?_) (fun b hb => ?_) ?_
        · intro d hd d' hd'
          obtain ⟨i, _, rfl⟩ := List.mem_map.mp hd
          obtain ⟨j, _, rfl⟩ := List.mem_map.mp hd'
          rfl
        · obtain ⟨i, _, rfl⟩ := List.mem_map.mp hd
          exact ⟨(fun z => PyData.noConfusion z), (fun xs z => PyData.noConfusion z)⟩
        · obtain ⟨i, _, rfl⟩ := List.mem_map.mp hb
          simp [PyData.depth]
        · have e1 := PySem.W.dataLe_int (fun i : Int => i)
          rw [show sortI ns = ns.mergeSort (fun a b => decide (a ≤ b)) from rfl, ← e1]
          exact (List.map_mergeSort (f := PyData.int) (r := PySem.W.dataLe false fun i : Int => .int i) (s := PySem.W.dataLe false id) fun _ _ _ _ => rfl).symm
      · split at es
        · rename_i hc
          cases es
          simp only [Bool.and_eq_true] at hc
          obtain ⟨⟨h1, h2⟩, h3⟩ := hc
          have h3 : PyData.depthAll ds ≤ 150 := of_decide_eq_true h3
          have := alkAll_ok h1
          exact go (fun d hd d' hd' => this.1 d hd d' hd') (srtAll_ok h2) (fun b hb => by have := depth_mem hb; omega) rfl
        · cases es
  | [], _, p => exact p.elim
  | _ :: _ :: _, _, p => exact p.elim
/-- l.index(x) -/
theorem mt_idx (hu : X.A.units + 200 < cLine) : MtR X "list.index" (fun x xs H Q => ∃ m F env h σ w ws, SR X.K B m F env h σ H ∧ WR X.K m F x w ∧ WRs X.K m F xs ws ∧ PostE X.K xr B Wx m F env σ H (evM .index w ws h) Q) := by
  intro pins s σ H x xs v us Q I rx rxs hq
  obtain ⟨m, F, env, h, σ', w, ws, S, r, rs, p⟩ := hq
  match ws, rs, p with
  | [.d z], rs, p =>
    simp only [evM] at p
    split at p
    · rename_i ys e
      split at p
      · rename_i hd
        split at p
        · rename_i j ej
          obtain ⟨y, rfl, ry⟩ := one_of rs
          have dl := toDD_dp S.hr r e
          have ry1 : Dp X.K F y z := ry
          have ry' : Dp X.K H y z := dp_mono S.hr.sub _ _ ry1
          obtain ⟨uy, rfl, ruy⟩ := vals1 rxs
          obtain ⟨a, vs, rfl, sq, dd⟩ : ∃ a vs, x = .ref a ∧ SqL X.K H a vs ∧ DpAll X.K H vs ys := by
            cases dl with
            | lst h1 h2 => exact ⟨_, _, rfl, h1, h2⟩
          · cases rx
            obtain ⟨its, rv, hl, hz⟩ := I.list sq
            obtain ⟨as, h4⟩ := Dp.readsAll I ys _ its dd rv
            obtain ⟨bs, h5⟩ := Dp.reads I z y uy ry' ruy
            have hdz := of_decide_eq_true hd
            obtain ⟨⟨cls, odd, data, sl⟩, n, ho, hc, _, hd'⟩ := hl
            simp only at hc hd'
            subst hc hd'
            have rs2 : ReadsAll s.heap its.toArray.toList ys as := by simpa using h4
            obtain ⟨hj, hit, hno⟩ := SeqAt.hit_at rs2 (dps_plain _ _ dd) (d := z) (j := j) ej
            have szE := sizeLine_eq
            have hjl : j < its.length := by simpa using hj
            have hlv := rv.length
            refine call_meets PySem.F.slot_list_index ⟨_, ho, rfl⟩ PySem.F.entry_list_index (PySem.F.args_list_index_2 _ _) (SeqAt.list_indexAt a its.toArray n odd sl uy (fun u => PyData.eqv (SeqAt.readOf s.heap u) z) j hj (by omega) hit hno)
              ⟨ho, SeqAt.items_plain rs2 h5 (dps_plain _ _ dd) (dp_plain _ _ ry') (by omega), ?_⟩
            exact ⟨.int _, H, I.tok _, ⟨_, rfl⟩, PostE.now p S (.int _)⟩
        · exact p.elim
      · exact p.elim
    · exact p.elim
  | [.l _], _, p => exact p.elim
  | [], _, p => exact p.elim
  | _ :: _ :: _, _, p => exact (show False by simpa [evM, PostG] using p).elim
theorem dctOf_ok {h : Hq} {w : W} {kvs : List (PyData × PyData)} (e : dctOf h w = some kvs) : ∃ n, w = .l n ∧ h[n]? = some (.dct kvs) := by
  unfold dctOf at e
  split at e
  · split at e
    · rename_i eo; cases e; exact ⟨_, rfl, eo⟩
    · cases e
  · cases e
/-- d.get(k, v) -/
theorem mt_get (hw : X.w = Wd.w) (hu : X.A.units + 200 < cLine) : MtR X "dict.get" (fun x xs H Q => ∃ m F env h σ w ws, SR X.K B m F env h σ H ∧ WR X.K m F x w ∧ WRs X.K m F xs ws ∧ PostE X.K xr B Wx m F env σ H (evM .get w ws h) Q) := by
  intro pins s σ H x xs v us Q I rx rxs hq
  obtain ⟨m, F, env, h, σ', w, ws, S, r, rs, p⟩ := hq
  match ws, rs, p with
  | [.d k, dv], rs, p =>
    simp only [evM] at p
    split at p
    · rename_i kvs ed
      have p2 := p
      obtain ⟨n, rfl, eo⟩ := dctOf_ok ed
      obtain ⟨a, em, rfl⟩ := r
      cases rx
      obtain ⟨fa, es, eH, dk, nd, hz, hl⟩ := S.hr.ob n _ a eo em
      split at p2
      · rename_i hk
        obtain ⟨ks, nk, rfl, ek, hd⟩ := isKey_ok hk
        obtain ⟨y, y2, rfl, ry, ry2⟩ := two_of rs
        obtain ⟨u1, u2, rfl, ru1, ru2⟩ := vals2 rxs
        have ry : Dp X.K F y (.tuple ks) := ry
        have ry' := ry
        cases ry with
        | tup h1 h2 =>
          cases ru1
          have dd := dk_of hw I S.hr.sub eH dk nd
          have g := dk.get ek
          refine call_meetsIn PySem.F.slot_dict_get dd.typeIs PySem.F.entry_dict_get (PySem.F.args_dict_get_3 _ _ _) (meetsH_dict_get_default (nestedKind X.prog X.w) a _ hz u2) ⟨dk_room hu, nk, es, dk_is I S.hr.sub ek hd ry', dd, ?_⟩
          cases e : dget kvs (.tuple ks) with
          | some z =>
            rw [e] at g p2
            obtain ⟨pv, z', e1, rz, dz⟩ := g
            rw [e1]
            exact ⟨z', H, I.tok _, rz, PostE.now p2 S dz⟩
          | none =>
            rw [e] at g p2
            rw [g]
            exact ⟨y2, H, I.tok _, ru2, PostE.now p2 S ry2⟩
      · exact p2.elim
    · exact p.elim
  | [.l _, _], _, p => exact (show False by simpa [evM, PostG] using p).elim
  | [], _, p => exact p.elim
  | [.d _], _, p => exact (show False by simpa [evM, PostG] using p).elim
  | [.l _], _, p => exact (show False by simpa [evM, PostG] using p).elim
  | _ :: _ :: _ :: _, _, p => exact (show False by simpa [evM, PostG] using p).elim
end
end Ev

/-! EvJ: calls, comprehensions; every expression (sndE). -/
namespace Ev
open PySem PySem.Spec L2
variable [Wd]
section
variable {M : ME} {xr : XRel} {T : List FD} {n b : Nat} {B : List Nat}

section
variable {X : Cx} {o e : Expr} {es : List Expr} {to : TE} {t : TA} {name : Str} {apos cpos pos : Pos} {T id : String} {r : V → List V → Hp → VK → Prop}
/-- a dict of this language -/
def isDct (x : V) (H : Hp) : Prop := ∃ a es, x = .ref a ∧ H a = some (dctO a es)
/-- d.m(e, ..) -/
theorem pe_dctm (pa : PySem.PlainAttrs "dict") (slot : PySem.Slot "dict" name id) (hty : typeOf (.builtin id) = pure (.type "method_descriptor")) (hm : MtR X id r) (ho : PE X o to) (ha : PA X (e :: es) t)
    (base : attributeBase o name X.env (eval o X.env) = eval o X.env)
    (few : ((backTo cpos (starEach (e :: es) X.env)).all (fun x => !x.1) && (backToKw cpos (keywordEach [] X.env)).all (fun x => x.1.isSome) && decide ((e :: es).length + ([] : List Keyword).length + (if ([] : List Keyword).isEmpty then 0 else 1) < 30)) = true)
    (line : (apos.endLine == cpos.line) = true) (st : starEach (e :: es) X.env = (false, eval e X.env) :: starEach es X.env) (ns : (backTo cpos (starEach es X.env)).any (·.1) = false) :
    PE X (.Call (.Attribute o name apos) (e :: es) [] cpos) (fun σ H Q => to σ H fun x H1 => isDct x H1 ∧ t σ H1 fun xs H2 => r x xs H2 Q) := by
  refine ⟨fun pins s σ H Q I q => ?_⟩
  refine wpAny_Call_method_late base few line rfl (thn (ho.run pins s σ H _ I q) fun v s1 ⟨x, H1, I1, r1, ⟨a, ds, ex, eH⟩, q1⟩ => ?_)
  subst ex
  cases r1
  have ok : ObjOk X.prog X.w H1 s1.heap a (dctO a ds) := I1.hok a _ eH
  obtain ⟨⟨ob, es', ep, h1, h2, h3, h4⟩, _, _⟩ := ok
  refine ⟨"dict", id, pa, slot, hty, ⟨ob, h1, h2.1⟩, (fun b q => by cases q; exact ⟨ob, h1, h2.2.1⟩), ?_⟩
  have hA := ha.run cpos pins s1 σ H1 _ I1 q1
  rw [st] at hA ⊢
  refine Calls.callWith_builtin (by show (false || (backTo cpos (starEach es X.env)).any (·.1)) = false; rw [ns] <;> rfl) (Calls.evalArgs_plain ?_)
  refine thn hA fun us s2 ⟨vs, H2, I2, r2, q2⟩ => ?_
  exact hm pins s2 σ H2 (.ref a) vs _ us Q I2 rfl r2 q2
/-- {} -/
theorem pe_dnewG (hw : X.w = Wd.w) : PE X (.Dict [] [] pos) (fun _ H Q => ∀ p, H p = none → (p == sysModules) = false → Q (.ref p) (upd H p (dctO p []))) := ⟨fun pins s σ H Q I q => by
  have big := I.big
  have ns : (s.heap.objs.size == sysModules) = false := beq_eq_false_iff_ne.mpr fun z => by rw [z] at big; exact absurd big (Nat.lt_irrefl _)
  refine wpAny_Dict_empty ⟨.ref s.heap.objs.size, _, I.laid (a := s.heap.objs.size) (o := dctO s.heap.objs.size []) (t' := s.toks) (fun _ _ q => Heap.get?_push_of_some _ q) (Nat.le_refl _) ?_, rfl, q _ (I.hok.fresh (Nat.le_refl _)) ns⟩
  exact dk_ok hw (Heap.DictOfH.new _)⟩
end
theorem isLst_ok {h : Hq} {w : W} (e : isLst h w = true) : ∃ ds, toDD h w = some (.list ds) := by
  unfold isLst at e
  split at e
  · rename_i q; exact ⟨_, q⟩
  · cases e
theorem bindA {K : PySem.W.Frag} {Wx : WX} {ra : Vars → Hq → R (List W)} {g : List W → Hq → R W} {σ : L2.St} {H : Hp} {Q : VK} {G : List V → Hp → Prop} (p : tE K xr B Wx (fun env h => (ra env h).bind g) σ H Q)
    (i : ∀ m F env h H ws vs, SR K B m F env h σ H → WRs K m F vs ws → PostE K xr B Wx m F env σ H (g ws h) Q → G vs H) : tA K xr B Wx ra σ H G := by
  obtain ⟨m, F, env, h, S, p⟩ := p
  exact ⟨m, F, env, h, S, p.bind.mono fun ws h1 m1 F1 H1 x1 S1 p vs rv => i m1 F1 env h1 H1 ws vs S1 rv p⟩

section
variable {X : Cx} {Wx : WX}
theorem ints_now {m : List Addr} {F H : Hp} {h : Hq} {w : W} {v : V} {ns : List Int} (s : HR X.K B m F h H) (r : WR X.K m F v w) (e : (toD h w).bind listInts = some ns) : ∃ a, v = .ref a ∧ SqL X.K H a (ns.map V.int) := by
  rw [Option.bind_eq_some_iff] at e
  obtain ⟨d, e1, e2⟩ := e
  cases d <;> simp only [listInts, reduceCtorEq] at e2
  obtain ⟨a, vs, rfl, sq, dd⟩ := (now_of s r e1).list s.sub
  rw [ints_vs dd e2] at sq
  exact ⟨a, rfl, sq⟩
theorem cr_sumE (hc : X.calm = true) : CallR X (.builtin "sum") (rB X.K xr B Wx (evB .sum)) := by
  intro pins s σ H xs us Q I rs hq
  obtain ⟨m, F, env, h, σ', ws, S, r, p⟩ := hq
  match ws, r, p with
  | [w], r, p =>
    obtain ⟨v, rfl, r'⟩ := one_of r
    simp only [evB] at p
    obtain ⟨d, e, p⟩ := liftO_cases p
    rw [Option.map_eq_some_iff] at e
    obtain ⟨ns, e, rfl⟩ := e
    obtain ⟨a, rfl, sq⟩ := ints_now S.hr r' e
    exact cr_sum hc pins s σ H _ us Q I rs ⟨a, ns, rfl, sq, PostE.now p S (.int _)⟩
  | [], _, p => exact p.elim
  | _ :: _ :: _, _, p => exact p.elim
theorem bools_vs {F : Hp} : ∀ {ds : List PyData} {vs : List V} {ns : List Bool}, DpAll X.K F vs ds → boolsOf ds = some ns → vs = ns.map V.bl
  | [], _, _, h, e => by cases h; simp [boolsOf] at e; subst e; rfl
  | d :: ds, _, _, h, e => by
    cases h with
    | cons h1 h2 =>
      cases d <;> simp only [boolsOf, reduceCtorEq] at e
      rw [Option.map_eq_some_iff] at e
      obtain ⟨ns, e, rfl⟩ := e
      cases h1
      rw [bools_vs h2 e]
      rfl
theorem bools_now {m : List Addr} {F H : Hp} {h : Hq} {w : W} {v : V} {ns : List Bool} (s : HR X.K B m F h H) (r : WR X.K m F v w) (e : (toD h w).bind listBools = some ns) : ∃ a, v = .ref a ∧ SqL X.K H a (ns.map V.bl) := by
  rw [Option.bind_eq_some_iff] at e
  obtain ⟨d, e1, e2⟩ := e
  cases d <;> simp only [listBools, reduceCtorEq] at e2
  obtain ⟨a, vs, rfl, sq, dd⟩ := (now_of s r e1).list s.sub
  rw [bools_vs dd e2] at sq
  exact ⟨a, rfl, sq⟩
theorem cr_allE (hc : X.calm = true) : CallR X (.builtin "all") (rB X.K xr B Wx (evB .all)) := by
  intro pins s σ H xs us Q I rs hq
  obtain ⟨m, F, env, h, σ', ws, S, r, p⟩ := hq
  match ws, r, p with
  | [w], r, p =>
    obtain ⟨v, rfl, r'⟩ := one_of r
    simp only [evB] at p
    obtain ⟨d, e, p⟩ := liftO_cases p
    rw [Option.map_eq_some_iff] at e
    obtain ⟨ns, e, rfl⟩ := e
    obtain ⟨a, rfl, sq⟩ := bools_now S.hr r' e
    exact cr_all hc pins s σ H _ us Q I rs ⟨a, ns, rfl, sq, PostE.now p S (.bl _)⟩
  | [], _, p => exact p.elim
  | _ :: _ :: _, _, p => exact p.elim
theorem cr_anyE (hc : X.calm = true) : CallR X (.builtin "any") (rB X.K xr B Wx (evB .any)) := by
  intro pins s σ H xs us Q I rs hq
  obtain ⟨m, F, env, h, σ', ws, S, r, p⟩ := hq
  match ws, r, p with
  | [w], r, p =>
    obtain ⟨v, rfl, r'⟩ := one_of r
    simp only [evB] at p
    obtain ⟨d, e, p⟩ := liftO_cases p
    rw [Option.map_eq_some_iff] at e
    obtain ⟨ns, e, rfl⟩ := e
    obtain ⟨a, rfl, sq⟩ := bools_now S.hr r' e
    exact cr_any hc pins s σ H _ us Q I rs ⟨a, ns, rfl, sq, PostE.now p S (.bl _)⟩
  | [], _, p => exact p.elim
  | _ :: _ :: _, _, p => exact p.elim
end
theorem snd_blt {f : Bt} {es : Es} (hes : SndEs M xr T n b B es) : SndE M xr T n b B (.blt f es) := by
  intro X Wx sc p k h
  cases p <;> try (simp only [matE, Bool.false_eq_true] at h; done)
  rename_i pf ps kw pos
  cases pf <;> try (simp [matE] at h; done)
  rename_i x p2
  cases ps <;> try (simp [matE] at h; done)
  rename_i p ps
  cases kw <;> try (simp [matE] at h; done)
  simp only [matE, Bool.and_eq_true, decide_eq_true_eq] at h
  obtain ⟨⟨rfl, h1⟩, h2⟩ := h
  have hg := gl_of k.hs h1
  have hm := bt_gl (f := f) k
  have ha := hes X Wx sc _ k h2
  have hs := star1 (env := X.env) (ps := ps) (star_head h2)
  have hpl : (backTo pos (starEach ps X.env)).any (·.1) = false := by
    cases es with
    | nil => simp [matEs] at h2
    | cons e es => simp only [matEs, Bool.and_eq_true] at h2; exact (stars_of h2.2 pos).1
  have rd : ∀ {σ H Q}, tE X.K xr B Wx (evE b (callN T n) (.blt f es)) σ H Q → tCB (rB X.K xr B Wx (evB f)) (tA X.K xr B Wx (evEs b (callN T n) es)) σ H Q := fun {σ H Q} q => by
    simp only [tE, evE] at q
    exact bindA q fun m F env hq H ws vs S rv q => ⟨m, F, env, hq, σ, ws, S, rv, q⟩
  have bad : (∀ ws h, evB f ws h = .bad) → ∀ {σ H Q}, tE X.K xr B Wx (evE b (callN T n) (.blt f es)) σ H Q → tCB (fun _ _ _ => False) (tA X.K xr B Wx (evEs b (callN T n) es)) σ H Q := fun hb {σ H Q} q => by
    simp only [tE, evE] at q
    exact bindA q fun m F env hq H ws vs S rv q => by rw [hb] at q; exact q.elim
  have fB : ∀ {id : String} {v : Value}, (∀ ws h, evB f ws h = .bad) → bootBuiltins f.nm = some (.builtin id) → f.nm ≠ "__name__" → (f.nm == ("__debug__" : Str)) = false → SE X xr B Wx (evE b (callN T n) (.blt f es)) (.Call (.Name f.nm p2) (p :: ps) [] pos) := fun {id v} hb hv hn hd =>
    SE.of_plain ((pe_callB (id := id) (r := fun _ _ _ => False) (fun _ _ _ _ _ _ _ _ _ z => z.elim) hg hm hv ha hn hd hs hpl).weak fun σ H Q q => bad hb q) (fun _ => rfl) rfl
  have fT : ∀ {id : String}, (∀ ws h, evB f ws h = .bad) → bootBuiltins f.nm = some (.type id) → f.nm ≠ "__name__" → (f.nm == ("__debug__" : Str)) = false → SE X xr B Wx (evE b (callN T n) (.blt f es)) (.Call (.Name f.nm p2) (p :: ps) [] pos) := fun {id} hb hv hn hd =>
    SE.of_plain ((pe_callTy (T := id) (r := fun _ _ _ => False) (fun _ _ _ _ _ _ _ _ _ z => z.elim) hg hm hv ha hn hd hs hpl).weak fun σ H Q q => bad hb q) (fun _ => rfl) rfl
  cases f
  case len => exact SE.of_plain ((pe_callB cr_len hg hm (by decide +kernel) ha (by decide +kernel) (by decide +kernel) hs hpl).weak fun σ H Q q => rd q) (fun _ => rfl) rfl
  case tuple => exact SE.of_plain ((pe_callTy cr_tuple hg hm (by decide +kernel) ha (by decide +kernel) (by decide +kernel) hs hpl).weak fun σ H Q q => rd q) (fun _ => rfl) rfl
  case list => exact SE.of_plain ((pe_callTy cr_list hg hm (by decide +kernel) ha (by decide +kernel) (by decide +kernel) hs hpl).weak fun σ H Q q => rd q) (fun _ => rfl) rfl
  case int => exact SE.of_plain ((pe_callTy cr_int hg hm (by decide +kernel) ha (by decide +kernel) (by decide +kernel) hs hpl).weak fun σ H Q q => rd q) (fun _ => rfl) rfl
  case sum => exact SE.of_plain ((pe_callB (cr_sumE k.calm) hg hm (by decide +kernel) ha (by decide +kernel) (by decide +kernel) hs hpl).weak fun σ H Q q => rd q) (fun _ => rfl) rfl
  case sorted => exact SE.of_plain ((pe_callB (cr_sortedE k.hu) hg hm (by decide +kernel) ha (by decide +kernel) (by decide +kernel) hs hpl).weak fun σ H Q q => rd q) (fun _ => rfl) rfl
  case str => exact fT (id := "str") (by intro ws h; rcases ws with _ | ⟨w, _ | ⟨w2, ws⟩⟩ <;> simp [evB]) (by decide +kernel) (by decide +kernel) (by decide +kernel)
  case max => exact SE.of_plain ((pe_callB (cr_maxE k.calm k.hu) hg hm (by decide +kernel) ha (by decide +kernel) (by decide +kernel) hs hpl).weak fun σ H Q q => rd q) (fun _ => rfl) rfl
  case min => exact SE.of_plain ((pe_callB (cr_minE k.calm k.hu) hg hm (by decide +kernel) ha (by decide +kernel) (by decide +kernel) hs hpl).weak fun σ H Q q => rd q) (fun _ => rfl) rfl
  case all => exact SE.of_plain ((pe_callB (cr_allE k.calm) hg hm (by decide +kernel) ha (by decide +kernel) (by decide +kernel) hs hpl).weak fun σ H Q q => rd q) (fun _ => rfl) rfl
  case any => exact SE.of_plain ((pe_callB (cr_anyE k.calm) hg hm (by decide +kernel) ha (by decide +kernel) (by decide +kernel) hs hpl).weak fun σ H Q q => rd q) (fun _ => rfl) rfl
  case repr => exact SE.of_plain ((pe_callB (cr_repr k.gd k.hu) hg hm (by decide +kernel) ha (by decide +kernel) (by decide +kernel) hs hpl).weak fun σ H Q q => rd q) (fun _ => rfl) rfl
  case max2 => exact fB (id := "max") (v := .none) (by intro ws h; rcases ws with _ | ⟨w, _ | ⟨w2, ws⟩⟩ <;> simp [evB]) (by decide +kernel) (by decide +kernel) (by decide +kernel)
  case min2 => exact fB (id := "min") (v := .none) (by intro ws h; rcases ws with _ | ⟨w, _ | ⟨w2, ws⟩⟩ <;> simp [evB]) (by decide +kernel) (by decide +kernel) (by decide +kernel)
theorem snd_sset {x : E} (hx : SndE M xr T n b B x) : SndE M xr T n b B (.sset x) := by
  intro X Wx sc p k h
  cases p <;> try (simp only [matE, Bool.false_eq_true] at h; done)
  rename_i pf ps kw pos
  cases pf <;> try (simp [matE] at h; done)
  rename_i n1 pos3
  rcases ps with _ | ⟨p, _ | ⟨p2, ps⟩⟩ <;> try (simp [matE] at h; done)
  cases p <;> try (simp [matE] at h; done)
  rename_i pf ps2 kw2 pos2
  cases pf <;> try (simp [matE] at h; done)
  rename_i n2 pos4
  rcases ps2 with _ | ⟨p, _ | ⟨p2, ps⟩⟩ <;> try (simp [matE] at h; done)
  cases kw <;> try (simp [matE] at h; done)
  cases kw2 <;> try (simp [matE] at h; done)
  simp only [matE, Bool.and_eq_true, decide_eq_true_eq] at h
  obtain ⟨⟨⟨⟨⟨rfl, rfl⟩, g1⟩, g2⟩, hn⟩, hm⟩ := h
  have a := (hx X Wx sc p k hm).pe
  have inner := pe_callTy (p := pos4) (pos := pos2) cr_setL (gl_of k.hs g2) (k.bl _ (by decide +kernel)) (by decide +kernel) (pa_cons a pa_nil (star1 hn)) (by decide +kernel) (by decide +kernel) (star1 hn) rfl
  refine SE.of_plain ((pe_callB (p := pos3) (pos := pos) (cr_sortedSet k.calm) (gl_of k.hs g1) (k.bl _ (by decide +kernel)) (by decide +kernel) (pa_cons inner pa_nil rfl) (by decide +kernel) (by decide +kernel) rfl rfl).weak fun σ H Q q => ?_) (fun _ => rfl) rfl
  simp only [tE, evE] at q
  refine bind1 (ra := evE b (callN T n) x) q fun m F env hq H w v S r q => ?_
  split at q
  · rename_i ns e
    split at q
    · rename_i hl
      obtain ⟨a, rfl, sq⟩ := ints_now S.hr r e
      refine ⟨k.calm, a, ns, rfl, sq, by omega, fun c p hc hp => ?_⟩
      have fp := S.hr.freeF hp
      have mp := S.hr.freeM hp
      refine ⟨p, _, c, rfl, upd_same, by omega, fun ms q2 asc mem len hn => ?_⟩
      have e2 : ms = sortU ns := asc_eq asc (asc_sortU ns) fun j => by rw [mem j, mem_sortU]; simp
      rw [e2]
      have hpq : q2 ≠ p := fun z => by rw [z, upd_same] at hn; cases hn
      have hq0 : H q2 = none := by rw [upd_ne hpq] at hn; exact hn
      have S1 := S.other (u := SetO X.w p (fun j => decide (j ∈ ns)) c) fp mp
      obtain ⟨S2, x2⟩ := S1.newF (u := .lst ((sortU ns).map V.int)) hn
      refine q _ _ _ ⟨.refl _, x2.sub, fun b o eb hb => ?_, fun _ a b => absurd a b, fun b hb hf hh => ?_⟩ S2 _ (.lst sq_new (dp_ints _))
      · rw [upd_ne (ne_of_none eb hq0), upd_ne (ne_of_none eb hp)]; exact eb
      · have : b ≠ q2 := fun z => hh (z ▸ hq0)
        rw [upd_ne this]; exact hf
    · exact q.elim
  · exact q.elim
theorem snd_mth {f : Mt} {o : E} {es : Es} (ho : SndE M xr T n b B o) (hes : SndEs M xr T n b B es) : SndE M xr T n b B (.mth f o es) := by
  intro X Wx sc p k h
  cases p <;> try (simp only [matE, Bool.false_eq_true] at h; done)
  rename_i pf ps kw pos
  cases pf <;> try (simp [matE] at h; done)
  rename_i po x ap
  cases ps <;> try (simp [matE] at h; done)
  rename_i p ps
  cases kw <;> try (simp [matE] at h; done)
  simp only [matE, Bool.and_eq_true, decide_eq_true_eq] at h
  obtain ⟨⟨⟨⟨⟨⟨hf, rfl⟩, h0⟩, hl⟩, hlen⟩, h1⟩, h2⟩ := h
  have a := (ho X Wx sc po k h1).pe
  have ha := hes X Wx sc _ k h2
  have hs := star1 (env := X.env) (ps := ps) (star_head h2)
  have sts := stars_of (env := X.env) h2 pos
  have hpl : (backTo pos (starEach ps X.env)).any (·.1) = false := by
    cases es with
    | nil => simp [matEs] at h2
    | cons e es => simp only [matEs, Bool.and_eq_true] at h2; exact (stars_of h2.2 pos).1
  have hbase : attributeBase po f.nm X.env (eval po X.env) = eval po X.env := by
    unfold attributeBase
    cases po <;> try rfl
    rename_i g as kws ps
    cases g <;> try rfl
    cases as <;> try rfl
    cases kws <;> try rfl
    simp [notCall0] at h0
  have hfew : ((backTo pos (starEach (p :: ps) X.env)).all (fun x => !x.1) && (backToKw pos (keywordEach [] X.env)).all (fun x => x.1.isSome) && decide ((p :: ps).length + ([] : List Keyword).length + (if ([] : List Keyword).isEmpty then 0 else 1) < 30)) = true := by
    rw [sts.2, Bool.true_and, Bool.and_eq_true]
    exact ⟨rfl, decide_eq_true (by simp; omega)⟩
  have rd : ∀ {σ H Q} {P : V → Hp → Prop}, tE X.K xr B Wx (evE b (callN T n) (.mth f o es)) σ H Q → (∀ m F env hq H w v, SR X.K B m F env hq σ H → WR X.K m F v w → recv f hq w = true → P v H) →
      tE X.K xr B Wx (evE b (callN T n) o) σ H fun v H1 => P v H1 ∧ tA X.K xr B Wx (evEs b (callN T n) es) σ H1 fun vs H2 => ∃ m F env h σ w ws, SR X.K B m F env h σ H2 ∧ WR X.K m F v w ∧ WRs X.K m F vs ws ∧ PostE X.K xr B Wx m F env σ H2 (evM f w ws h) Q := fun {σ H Q P} q hP => by
    obtain ⟨m, F, env, hq, S, q⟩ := q
    simp only [evE] at q
    refine ⟨m, F, env, hq, S, q.bind.mono fun w h1 m1 F1 H1 x1 S1 q v rv => ?_⟩
    split at q
    · rename_i hr
      refine ⟨hP _ _ _ _ _ _ _ S1 rv hr, m1, F1, env, h1, S1, q.bind.mono fun ws h2 m2 F2 H2 x2 S2 q us ru => ?_⟩
      exact ⟨m2, F2, env, h2, σ, w, ws, S2, wr_mono x2.ml x2.sub rv, ru, q⟩
    · exact q.elim
  have lst : ∀ {m : List Addr} {F : Hp} {env : Vars} {hq : Hq} {H : Hp} {σ : L2.St} {w : W} {v : V} {ds : List PyData}, SR X.K B m F env hq σ H → WR X.K m F v w → toDD hq w = some (.list ds) → ∃ a vs, v = .ref a ∧ SqL X.K H a vs := fun {m F env hq H σ w v ds} S rv e => by
    have d := toDD_dp S.hr rv e
    cases d with
    | lst h1 h2 => exact ⟨_, _, rfl, h1⟩
  cases f
  case count =>
    refine SE.of_plain ((pe_bm PySem.F.plainAttrs_list PySem.F.slot_list_count PySem.F.type_list_count (mt_cnt (xr := xr) (B := B) (Wx := Wx) k.hu) a ha hbase hfew hl hs hpl).weak fun σ H Q q => rd q fun m F env hq H w v S rv hr => ?_) (fun _ => rfl) rfl
    obtain ⟨ds, e⟩ := isLst_ok hr
    obtain ⟨c, vs, rfl, sq⟩ := lst S rv e
    exact .inl ⟨rfl, vs, sq⟩
  case index =>
    refine SE.of_plain ((pe_bm PySem.F.plainAttrs_list PySem.F.slot_list_index PySem.F.type_list_index (mt_idx (xr := xr) (B := B) (Wx := Wx) k.hu) a ha hbase hfew hl hs hpl).weak fun σ H Q q => rd q fun m F env hq H w v S rv hr => ?_) (fun _ => rfl) rfl
    obtain ⟨ds, e⟩ := isLst_ok hr
    obtain ⟨c, vs, rfl, sq⟩ := lst S rv e
    exact .inl ⟨rfl, vs, sq⟩
  case get =>
    refine SE.of_plain ((pe_dctm PySem.F.plainAttrs_dict PySem.F.slot_dict_get PySem.F.type_dict_get (mt_get (xr := xr) (B := B) (Wx := Wx) k.hw k.hu) a ha hbase hfew hl hs hpl).weak fun σ H Q q => rd q fun m F env hq H w v S rv hr => ?_) (fun _ => rfl) rfl
    obtain ⟨kvs, ed⟩ : ∃ kvs, dctOf hq w = some kvs := Option.isSome_iff_exists.mp hr
    obtain ⟨n, rfl, eo⟩ := dctOf_ok ed
    obtain ⟨a, em, rfl⟩ := rv
    obtain ⟨fa, es, eH, dk, nd, hz, hl⟩ := S.hr.ob n _ a eo em
    exact ⟨a, es, rfl, eH⟩
  case pop => cases hf

theorem snd_call {f : Nat} {es : Es} (hb : b ∈ B) (hB : ∀ c ∈ B, c ≤ b) (hes : SndEs M xr T n b B es) : SndE M xr T n b B (.call f es) := by
  intro X Wx sc p k h
  cases p <;> try (simp only [matE, Bool.false_eq_true] at h; done)
  rename_i pf ps kw pos
  cases pf <;> try (simp [matE] at h; done)
  rename_i x p2
  cases ps <;> try (simp [matE] at h; done)
  rename_i p ps
  cases kw <;> try (simp [matE] at h; done)
  simp only [matE, Bool.and_eq_true] at h
  obtain ⟨⟨⟨h0, h1⟩, h2⟩, h3⟩ := h
  obtain ⟨a, fd, pr, hm, hk, hbd, hF⟩ := k.fns f x (of_decide_eq_true h0)
  have ha := hes X Wx sc _ k h3
  have hs := star1 (env := X.env) (ps := ps) (star_head h3)
  have hpl : (backTo pos (starEach ps X.env)).any (·.1) = false := by
    cases es with
    | nil => simp [matEs] at h3
    | cons e es => simp only [matEs, Bool.and_eq_true] at h3; exact (stars_of h3.2 pos).1
  refine SE.of_plain ((pe_callG (p := p2) (pos := pos) hF k.gd k.room (gl_of k.hs h1) hm hk hbd (fun σ => passAt k.tk σ) ha (plainN_of h2).1 hs hpl).weak fun σ H Q q => ?_) (fun _ => rfl) rfl
  simp only [tE, evE] at q
  refine bindA q fun m F env hq H ws vs S rv q => ?_
  cases e : callN T n b f ws hq with
  | bad => rw [e] at q; exact q.elim
  | ok w h' =>
    rw [e] at q
    have hfd : ∃ fd, T[f]? = some fd ∧ ws.length = fd.np := by
      cases n with
      | zero => simp [callN] at e
      | succ n =>
        simp only [callN] at e
        split at e
        · rename_i fd hfd
          refine ⟨fd, hfd, ?_⟩
          unfold runF at e
          split at e
          · assumption
          · cases e
        · cases e
    obtain ⟨fd, hfd, hl⟩ := hfd
    refine ⟨fd, hfd, by rw [rv.length]; exact hl, B, b, m, F, ws, hq, hb, hB, S.hr, rv, ?_⟩
    rw [e]
    exact fun v m' F' H' x r rw' => q m' F' H' x (S.ext r x) v rw'
  | ex c ds h' =>
    rw [e] at q
    have hfd : ∃ fd, T[f]? = some fd ∧ ws.length = fd.np := by
      cases n with
      | zero => simp [callN] at e
      | succ n =>
        simp only [callN] at e
        split at e
        · rename_i fd hfd
          refine ⟨fd, hfd, ?_⟩
          unfold runF at e
          split at e
          · assumption
          · cases e
        · cases e
    obtain ⟨fd, hfd, hl⟩ := hfd
    refine ⟨fd, hfd, by rw [rv.length]; exact hl, B, b, m, F, ws, hq, hb, hB, S.hr, rv, ?_⟩
    rw [e]
    exact fun m' F' H' cls dx x r y => q m' F' H' cls dx x r y
theorem snd_call0 {f : Nat} (hb : b ∈ B) (hB : ∀ c ∈ B, c ≤ b) : SndE M xr T n b B (.call0 f) := by
  intro X Wx sc p k h
  cases p <;> try (simp only [matE, Bool.false_eq_true] at h; done)
  rename_i pf ps kw pos
  cases pf <;> try (simp [matE] at h; done)
  rename_i x p2
  cases ps <;> try (simp [matE] at h; done)
  cases kw <;> try (simp [matE] at h; done)
  simp only [matE, Bool.and_eq_true] at h
  obtain ⟨⟨h0, h1⟩, h2⟩ := h
  obtain ⟨a, fd, pr, hm, hk, hbd, hF⟩ := k.fns f x (of_decide_eq_true h0)
  refine SE.of_plain ((pe_call0G (p := p2) (pos := pos) hF k.gd k.room (gl_of k.hs h1) hm hk hbd (fun σ => passAt k.tk σ) (plainN_of h2).1).weak fun σ H Q q => ?_) (fun _ => rfl) rfl
  obtain ⟨m, F, env, hq, S, q⟩ := q
  simp only [evE] at q
  have hfd : callN T n b f [] hq ≠ .bad → ∃ fd, T[f]? = some fd ∧ ([] : List W).length = fd.np := fun hz => by
    cases n with
    | zero => exact absurd (by simp [callN]) hz
    | succ n =>
      simp only [callN] at hz
      split at hz
      · rename_i fd hfd
        refine ⟨fd, hfd, ?_⟩
        unfold runF at hz
        split at hz
        · assumption
        · exact absurd rfl hz
      · exact absurd rfl hz
  cases e : callN T n b f [] hq with
  | bad => rw [e] at q; exact q.elim
  | ok w h' =>
    rw [e] at q
    obtain ⟨fd, hfd, hl⟩ := hfd (by rw [e]; exact fun z => nomatch z)
    refine ⟨fd, hfd, hl, B, b, m, F, [], hq, hb, hB, S.hr, .nil, ?_⟩
    rw [e]
    exact fun v m' F' H' x r rw' => q m' F' H' x (S.ext r x) v rw'
  | ex c ds h' =>
    rw [e] at q
    obtain ⟨fd, hfd, hl⟩ := hfd (by rw [e]; exact fun z => nomatch z)
    refine ⟨fd, hfd, hl, B, b, m, F, [], hq, hb, hB, S.hr, .nil, ?_⟩
    rw [e]
    exact fun m' F' H' cls dx x r y => q m' F' H' cls dx x r y
theorem snd_dnew : SndE M xr T n b B .dnew := by
  intro X Wx sc p k h
  cases p <;> try (simp only [matE, Bool.false_eq_true] at h; done)
  rename_i ks vs pos
  cases ks <;> try (simp [matE] at h; done)
  cases vs <;> try (simp [matE] at h; done)
  refine SE.of_plain ((pe_dnewG (pos := pos) k.hw).weak fun σ H Q q => ?_) (fun _ => rfl) rfl
  obtain ⟨m, F, env, hq, S, q⟩ := q
  simp only [evE] at q
  intro p hp hs
  exact PostE.newL (o := .dct []) q S hp ⟨S.hr.freeF hp, [], upd_same, .nil, by simp, hs, by simp⟩
theorem snd_dnewI : SndE M xr T n b B .dnewI := by
  intro X Wx sc p k h
  cases p <;> try (simp only [matE, Bool.false_eq_true] at h; done)
  rename_i ks vs pos
  cases ks <;> try (simp [matE] at h; done)
  cases vs <;> try (simp [matE] at h; done)
  refine SE.of_plain ((pe_dnewK (pos := pos)).weak fun σ H Q q => ?_) (fun _ => rfl) rfl
  obtain ⟨m, F, env, hq, S, q⟩ := q
  simp only [evE] at q
  intro p hp
  exact PostE.newL (o := .dki []) q S hp ⟨S.hr.freeF hp, [], upd_same, .nil, by simp⟩
end
end Ev

/-! EvX: range as an argument, isinstance, a module's whole number. -/
namespace Ev
open PySem PySem.Spec L2
variable [Wd]
section
variable {M : ME} {xr : XRel} {T : List FD} {n b : Nat} {B : List Nat}
theorem snd_bad : SndE M xr T n b B .bad := by
  intro X Wx sc p k h
  have hz : ∀ {σ H Q}, tE X.K xr B Wx (evE b (callN T n) .bad) σ H Q → False := fun {σ H Q} q => by
    obtain ⟨m, F, env, hq, S, q⟩ := q
    simp only [evE] at q
    exact q
  refine ⟨⟨fun pins s σ H Q I q => (hz q).elim⟩, fun _ => ⟨fun pins s σ H Q I q => ?_⟩, fun _ => ⟨fun w pins s σ H Q I q => ?_⟩⟩
  · obtain ⟨m, F, env, hq, S, q⟩ := q
    simp only [evE] at q
    exact q.elim
  · obtain ⟨m, F, env, hq, S, q⟩ := q
    simp only [evE] at q
    exact q.elim
theorem snd_glb (i : Int) : SndE M xr T n b B (.glb i) := by
  intro X Wx sc p k h
  cases p <;> simp only [matE, Bool.false_eq_true] at h
  rename_i x pos
  simp only [Bool.and_eq_true, List.contains_iff_mem] at h
  obtain ⟨t, hm⟩ := k.gls x i h.1.1
  refine SE.of_plain ((pe_glob (v := .int i) (gl_of k.hs h.1.2) hm ⟨t, rfl⟩ (plainN_of h.2).1).weak fun σ H Q q => ?_) (fun _ => rfl) rfl
  obtain ⟨m, F, env, hq, S, q⟩ := q
  simp only [evE] at q
  exact PostE.now q S (.int _)
theorem rgV_eq (n : Int) : rgV 0 n = ((List.range n.toNat).map fun i => ((i : Nat) : Int)).map V.int := by
  unfold rgV
  rw [List.map_map]
  simp
theorem dps_range {K : PySem.W.Frag} {F : Hp} (n : Int) : DpAll K F (rgV 0 n) ((List.range n.toNat).map fun i => PyData.int (i : Nat)) := by
  rw [rgV_eq]
  generalize List.range n.toNat = l
  induction l with
  | nil => exact .nil
  | cons x l ih => exact .cons (.int _) ih
theorem rg_RgOk {n : Int} (h : rgOk 0 n = true) : RgOk 0 n := by
  unfold rgOk at h
  have := of_decide_eq_true h
  unfold RgOk
  omega
theorem rgOf_ok {sc : Scope} {q pa : Expr} (h : rgOf sc q = some pa) : ∃ p pos, q = .Call (.Name "range" p) [pa] [] pos ∧ isGl sc "range" = true ∧ notStar pa = true := by
  unfold rgOf at h
  split at h
  · split at h
    · rename_i h'
      obtain ⟨rfl, h2, h3⟩ := h'
      cases h
      exact ⟨_, _, rfl, h2, h3⟩
    · cases h
  · cases h
theorem snd_trg {t : Bool} {a : E} (ha : SndE M xr T n b B a) : SndE M xr T n b B (.trg t a) := by
  intro X Wx sc p k h
  cases p <;> try (simp only [matE, Bool.false_eq_true] at h; done)
  rename_i pf ps kw pos
  cases pf <;> try (simp [matE] at h; done)
  rename_i x p2
  rcases ps with _ | ⟨q, _ | ⟨p2, ps⟩⟩ <;> try (simp [matE] at h; done)
  cases kw <;> try (simp [matE] at h; done)
  simp only [matE, Bool.and_eq_true, decide_eq_true_eq] at h
  obtain ⟨⟨⟨rfl, h1⟩, h2⟩, h3⟩ := h
  split at h3
  · rename_i pa eq
    obtain ⟨p3, pos3, rfl, g, ns⟩ := rgOf_ok eq
    have inner := prg_1 (p := p3) (pos := pos3) (gl_of k.hs g) (k.bl _ (by decide +kernel)) (ha X Wx sc pa k h3).pe (star1 ns)
    have rd : ∀ {σ H Q}, tE X.K xr B Wx (evE b (callN T n) (.trg t a)) σ H Q → tRg1 (tE X.K xr B Wx (evE b (callN T n) a)) σ H fun i j H1 => RgOk i j ∧ ∀ q, H1 q = none → Q (.ref q) (upd H1 q (if t then .tup (rgV i j) else .lst (rgV i j))) := fun {σ H Q} q => by
      simp only [tE, evE] at q
      refine bind1 (ra := evE b (callN T n) a) q fun m F env hq H w v S r q => ?_
      split at q
      · rename_i nn
        split at q
        · rename_i hr
          have r : Dp X.K F v (.int nn) := r
          cases r
          refine ⟨nn, rfl, rg_RgOk hr, fun p hp => ?_⟩
          cases t
          · exact PostE.newF q S hp (.lst sq_new (dps_mono (HpLe.upd (S.hr.freeF hp)) _ _ (dps_range nn)))
          · exact PostE.newF q S hp (.tup st_new (dps_mono (HpLe.upd (S.hr.freeF hp)) _ _ (dps_range nn)))
        · exact q.elim
      · exact q.elim
    cases t
    · exact SE.of_plain ((pe_listRg (p := p2) (pos := pos) k.calm (gl_of k.hs h1) (k.bl _ (by decide +kernel)) inner (star1 h2)).weak fun σ H Q q => rd q) (fun _ => rfl) rfl
    · exact SE.of_plain ((pe_tupRg (p := p2) (pos := pos) k.calm (gl_of k.hs h1) (k.bl _ (by decide +kernel)) inner (star1 h2)).weak fun σ H Q q => rd q) (fun _ => rfl) rfl
  · cases h3

theorem now_reads {X : Cx} {pins : List (Addr × Obj)} {s : Shared} {σ : L2.St} {m : List Addr} {F H : Hp} {h : Hq} (I : Inv X pins σ H s) (S : HR X.K B m F h H) {w : W} {v : V} {u : Value} {d : PyData} (r : WR X.K m F v w) (e : toD h w = some d) (rv : RelV v u) : ∃ as, Reads s.heap u d as :=
  Dp.reads I d v u ((now_of S r e).dp S.sub) rv
def Ity.tn : Ity → String
  | .int => "int" | .bool => "bool" | .str => "str" | .tuple => "tuple"
theorem cr_isa {X : Cx} {Wx : WX} (c : Ity) : CallR X (.builtin "isinstance") (fun xs H Q => ∃ m F env h σ w v x, SR X.K B m F env h σ H ∧ WR X.K m F v w ∧ xs = [v, .ty c.tn] ∧ toD h w = some x ∧ PostE X.K xr B Wx m F env σ H (.ok (.d (.bool (isaD c x))) h) Q) := by
  intro pins s σ H xs us Q I rs hq
  obtain ⟨m, F, env, h, σ', w, v, x, S, r, rfl, e, p⟩ := hq
  obtain ⟨u1, u2, rfl, r1, r2⟩ := vals2 rs
  obtain ⟨as, rd⟩ := now_reads I S.hr r e r1
  have q := PostE.now p S (.bl _)
  cases c
  · cases (show u2 = Value.type "int" from r2)
    exact PySem.W.isinstance_int_data rd fun tk _ => ⟨.bl _, H, I.tok tk, (by cases x <;> rfl), q⟩
  · cases (show u2 = Value.type "bool" from r2)
    exact PySem.W.isinstance_bool_data rd fun tk _ => ⟨.bl _, H, I.tok tk, (by cases x <;> rfl), q⟩
  · cases (show u2 = Value.type "str" from r2)
    exact PySem.W.isinstance_str_data rd fun tk _ => ⟨.bl _, H, I.tok tk, (by cases x <;> rfl), q⟩
  · cases (show u2 = Value.type "tuple" from r2)
    exact PySem.W.isinstance_tuple_data rd fun tk _ => ⟨.bl _, H, I.tok tk, (by cases x <;> rfl), q⟩
theorem snd_isa {c : Ity} {a : E} (ha : SndE M xr T n b B a) : SndE M xr T n b B (.isa c a) := by
  intro X Wx sc p k h
  cases p <;> try (simp only [matE, Bool.false_eq_true] at h; done)
  rename_i pf ps kw pos
  cases pf <;> try (simp [matE] at h; done)
  rename_i x p2
  rcases ps with _ | ⟨pa, _ | ⟨q, _ | ⟨p3, ps⟩⟩⟩ <;> try (simp [matE] at h; done)
  cases kw <;> try (simp [matE] at h; done)
  simp only [matE, Bool.and_eq_true, decide_eq_true_eq] at h
  obtain ⟨⟨⟨⟨⟨rfl, h1⟩, h2⟩, h3⟩, h4⟩, h5⟩ := h
  cases q <;> simp only [isTy, Bool.false_eq_true, Bool.and_eq_true, decide_eq_true_eq] at h4
  rename_i y p3
  obtain ⟨rfl, g⟩ := h4
  have pt : PE X (.Name c.nm p3) (tC (.ty c.tn)) := by
    cases c
    · exact pe_bltn (gl_of k.hs g) (k.bl _ (by decide +kernel)) (u := .type "int") (by decide +kernel) rfl (by decide +kernel) (by decide +kernel)
    · exact pe_bltn (gl_of k.hs g) (k.bl _ (by decide +kernel)) (u := .type "bool") (by decide +kernel) rfl (by decide +kernel) (by decide +kernel)
    · exact pe_bltn (gl_of k.hs g) (k.bl _ (by decide +kernel)) (u := .type "str") (by decide +kernel) rfl (by decide +kernel) (by decide +kernel)
    · exact pe_bltn (gl_of k.hs g) (k.bl _ (by decide +kernel)) (u := .type "tuple") (by decide +kernel) rfl (by decide +kernel) (by decide +kernel)
  refine SE.of_plain ((pe_callB (p := p2) (pos := pos) (cr_isa (xr := xr) (B := B) (Wx := Wx) c) (gl_of k.hs h1) (k.bl _ (by decide +kernel)) (by decide +kernel) (pa_cons (ha X Wx sc pa k h5).pe (pa_cons pt pa_nil (star1 h3)) (star1 h2)) (by decide +kernel) (by decide +kernel) (star1 h2) (by rw [star1 h3]; rfl)).weak fun σ H Q q => ?_) (fun _ => rfl) rfl
  simp only [tE, evE] at q
  refine bind1 (ra := evE b (callN T n) a) q fun m F env hq H w v S r q => ?_
  split at q
  · rename_i d e
    exact ⟨m, F, env, hq, σ, w, v, d, S, r, rfl, e, q⟩
  · exact q.elim
/-! ### {..}.get(k, d) -/
theorem pe_intC {X : Cx} {v : Expr} {i : Int} (h : intC v = some i) : PE X v (tC (.int i)) := by
  unfold intC at h
  split at h
  · cases h
    exact pe_int
  · cases h
    exact (pe_un un_neg pe_int).weak fun σ H Q q => ⟨_, rfl, q⟩
  · cases h
def kvT (kvs : List (Str × Int)) : List (TE × TE) := kvs.map fun p => (tC (.str p.1), tC (.int p.2))
theorem pps_kv {X : Cx} {pos : Pos} : ∀ {kvs : List (Str × Int)} {ks : List (Option Expr)} {vs : List Expr}, matKV kvs ks vs = true → PPs X pos ks vs (kvT kvs) ∧ ks.all (·.isSome) = true ∧ ks.length = vs.length ∧ ks.length = kvs.length
  | [], [], [], _ => ⟨pps_nil, rfl, rfl, rfl⟩
  | [], [], _ :: _, h => by simp [matKV] at h
  | [], _ :: _, _, h => by simp [matKV] at h
  | _ :: _, [], _, h => by simp [matKV] at h
  | _ :: _, _ :: _, [], h => by simp [matKV] at h
  | (s, i) :: r, k :: ks, v :: vs, h => by
    simp only [matKV, Bool.and_eq_true, decide_eq_true_eq] at h
    obtain ⟨⟨h1, h2⟩, h3⟩ := h
    obtain ⟨a, b, c, d⟩ := pps_kv (X := X) (pos := pos) h3
    unfold keyIsC at h1
    split at h1
    · simp only [decide_eq_true_eq] at h1
      subst h1
      exact ⟨pps_cons pe_str (pe_intC h2) a, by simp [b], by simp [c], by simp [d]⟩
    · cases h1
def kvV (kvs : List (Str × Int)) : List (Key × V) := kvs.map fun p => (Sum.inr p.1, V.int p.2)
theorem tPairs_kv {σ : L2.St} {H : Hp} : ∀ {kvs : List (Str × Int)} {Q : List (V × V) → Hp → Prop}, Q ((kvV kvs).map fun kv => (kV kv.1, kv.2)) H → tPairs (kvT kvs) σ H Q
  | [], _, h => h
  | p :: r, Q, h => tPairs_kv (kvs := r) (Q := fun ps H3 => Q ((V.str p.1, V.int p.2) :: ps) H3) h
theorem look_merge (s : Str) : ∀ (kvs : List (Str × Int)) (acc : List (Key × V)) (o : Option Int), valV acc (Sum.inr s) = o.map V.int → valV (mergeK acc (kvV kvs)) (Sum.inr s) = (kvs.foldl (fun acc p => if s = p.1 then some p.2 else acc) o).map V.int
  | [], acc, o, h => h
  | p :: r, acc, o, h => by
    show valV (mergeK (putK acc (Sum.inr p.1) (V.int p.2)) (kvV r)) (Sum.inr s) = _
    rw [List.foldl_cons]
    refine look_merge s r _ _ ?_
    rw [valV_put]
    by_cases e : s = p.1
    · subst e; simp
    · have : ¬ (Sum.inr s : Key) = Sum.inr p.1 := fun z => e (Sum.inr.inj z)
      simp only [if_neg this, if_neg e]
      exact h
theorem PostG.shift {α : Type} {K : PySem.W.Frag} {Wx : WX} {m m1 : List Addr} {F F1 H H1 : Hp} {env : Vars} {σ : L2.St} {r : R α} {P : α → Hq → List Addr → Hp → Hp → Prop} (p : PostG K xr B Wx m F env σ H r P) (x : Ext m F H m1 F1 H1) : PostG K xr B Wx m1 F1 env σ H1 r P := by
  cases r with
  | ok a h => exact fun m2 F2 H2 e => p m2 F2 H2 (x.trans e)
  | ex c ds h => exact fun m2 F2 H2 cls dx e => p m2 F2 H2 cls dx (x.trans e)
  | bad => exact p
theorem snd_dlg {kvs : List (Str × Int)} {e1 e2 : E} (h1 : SndE M xr T n b B e1) (h2 : SndE M xr T n b B e2) : SndE M xr T n b B (.dlg kvs e1 e2) := by
  intro X Wx sc p k h
  cases p <;> try (simp only [matE, Bool.false_eq_true] at h; done)
  rename_i pf ps kw cp
  cases pf <;> try (simp [matE] at h; done)
  rename_i po x ap
  rcases ps with _ | ⟨pk, _ | ⟨pd, _ | ⟨p3, ps⟩⟩⟩ <;> try (simp [matE] at h; done)
  cases kw <;> try (simp [matE] at h; done)
  simp only [matE, Bool.and_eq_true, decide_eq_true_eq] at h
  obtain ⟨⟨⟨⟨⟨⟨rfl, hl⟩, n1⟩, n2⟩, hd⟩, m1⟩, m2⟩ := h
  cases po <;> simp only [dictOf, Bool.false_eq_true] at hd
  rename_i ks vs dp
  simp only [Bool.and_eq_true, decide_eq_true_eq] at hd
  obtain ⟨⟨hk, hlen⟩, h15⟩ := hd
  obtain ⟨pp, hall, hlv, _⟩ := pps_kv (X := X) (pos := dp) hk
  have hs1 : starEach [pk, pd] X.env = [(false, eval pk X.env), (false, eval pd X.env)] := by rw [star1 n1, star1 n2]; rfl
  have disp := pe_disp pp hall hlv (by intro z; rw [z] at hlen; simp at hlen) h15
  have m : M2 X (.Dict ks vs dp) "get" ap pk pd cp := ⟨rfl, by rw [hs1]; rfl, hl, by rw [hs1]; rfl⟩
  have hu : X.A.units + 1 < cLine := by have := k.hu; omega
  refine SE.of_plain ((pe_dget2 hu disp (h1 X Wx sc pk k m1).pe (h2 X Wx sc pd k m2).pe m).weak fun σ H Q q => ?_) (fun _ => rfl) rfl
  intro p hp
  refine tPairs_kv ⟨upd_same, kvV kvs, rfl, ?_, p, rfl, .inl ⟨_, .inl upd_same⟩, ?_⟩
  · obtain ⟨_, _, _, e⟩ := pps_kv (X := X) (pos := dp) hk
    unfold kvV
    rw [List.length_map, ← e]
    exact h15
  obtain ⟨m0, F, env, hq, S, q⟩ := q
  simp only [evE] at q
  have uu : upd (upd H p (.dK [])) p (.dK (mergeK [] (kvV kvs))) = upd H p (.dK (mergeK [] (kvV kvs))) := by
    funext a
    unfold upd
    split <;> rfl
  rw [uu]
  have fp := S.hr.freeF hp
  have mp := S.hr.freeM hp
  have S1 : SR X.K B m0 F env hq σ (upd H p (.dK (mergeK [] (kvV kvs)))) := ⟨S.hr.other fp mp, S.el, S.var⟩
  have x0 : Ext m0 F H m0 F (upd H p (.dK (mergeK [] (kvV kvs)))) := ⟨.refl _, .refl _, fun a o e _ => by
    rw [upd_ne (fun z => by rw [z, hp] at e; cases e)]; exact e, fun a h g => absurd h g, fun _ _ h _ => h⟩
  have q := PostG.shift q x0
  refine ⟨m0, F, env, hq, S1, q.bind.mono fun w1 hq1 m1 F1 H1 x1 S1 qa v1 r1 => ⟨m1, F1, env, hq1, S1, qa.bind.mono fun w2 hq2 m2 F2 H2 x2 S2 q v2 r2 => ?_⟩⟩
  have hd1 : H1 p = some (.dK (mergeK [] (kvV kvs))) := x1.frm p _ upd_same mp
  have mp1 : p ∉ m1 := fun z => by
    have := x1.new p z mp
    rw [upd_same] at this
    cases this
  have hd2 : H2 p = some (.dK (mergeK [] (kvV kvs))) := x2.frm p _ hd1 mp1
  cases w1 with
  | l _ => exact q.elim
  | d dd =>
    cases dd
    case str s =>
      have r1 : Dp X.K F1 v1 (.str s) := r1
      cases r1
      refine ⟨_, DGet.k (k := Sum.inr s) hd2, ?_⟩
      rw [look_merge s kvs [] none rfl]
      simp only [dlook] at q
      cases hh : kvs.foldl (fun acc p => if s = p.1 then some p.2 else acc) none with
      | some i => rw [hh] at q; exact PostE.now q S2 (.int _)
      | none => rw [hh] at q; exact PostE.now q S2 r2
    all_goals exact q.elim
end
end Ev

/-! EvK: comprehensions; every expression (sndE). -/
namespace Ev
open PySem PySem.Spec L2
variable [Wd]
section
variable {M : ME} {xr : XRel} {T : List FD} {n b : Nat} {B : List Nat}
def SndIt (M : ME) (xr : XRel) (T : List FD) (n b : Nat) (B : List Nat) (it : It) : Prop := ∀ (X : Cx) (Wx : WX) (sc : Scope) (tg p : Expr), XOk X Wx M xr T n sc → matIt M sc it p = true → PI X tg p (tI X.K xr B Wx (evIt b (callN T n) it))
theorem tI_of {K : PySem.W.Frag} {Wx : WX} {ra : Vars → Hq → R W} {g : W → Hq → R (List W × Option Nat)} {σ : L2.St} {H : Hp} {G : L2.It → Hp → Prop} {Q' : VK} (p : tI K xr B Wx (fun env h => (ra env h).bind g) σ H G)
    (i : ∀ m F env h H w v, SR K B m F env h σ H → WR K m F v w → PostG K xr B Wx m F env σ H (g w h) (fun ws h' m' F' H' => ∀ J, ItOk K ws.2 h' m' F' J ws.1 → ws.1.length ≤ sizeLine → G J H') → Q' v H) : tE K xr B Wx ra σ H Q' := by
  obtain ⟨m, F, env, h, S, p⟩ := p
  exact ⟨m, F, env, h, S, p.bind.mono fun w h1 m1 F1 H1 x1 S1 p v rv => i m1 F1 env h1 H1 w v S1 rv p⟩
theorem snd_it_e {a : E} (ha : SndE M xr T n b B a) : SndIt M xr T n b B (.e a) := by
  intro X Wx sc tg p k h
  simp only [matIt] at h
  refine (pi_seq (ha X Wx sc p k h).pe).weak fun σ H G q => ?_
  simp only [tI, evIt] at q
  refine tI_of (ra := evE b (callN T n) a) q fun m F env hq H w v S r q => ?_
  have szE := sz_eq
  cases w with
  | l n =>
    obtain ⟨a, em, rfl⟩ := r
    simp only [itemsOf] at q
    refine .inr ⟨a, rfl, .inl ?_⟩
    split at q
    · rename_i ws ew
      split at ew
      · rename_i xs eo
        cases ew
        obtain ⟨f, vs, eH, dd⟩ := S.hr.ob n _ a eo em
        refine ⟨⟨vs, .of eH⟩, fun len => ?_⟩
        have hl := len vs (.of eH)
        exact q m F H (.refl ..) S _ (it_live em (.inl ⟨xs, eo, rfl⟩)) (by simp only [List.length_map]; rw [← dd.length]; exact hl)
      · rename_i ws' eo
        cases ew
        obtain ⟨f, vs, eH, dd⟩ := S.hr.ob n _ a eo em
        refine ⟨⟨vs, .of eH⟩, fun len => ?_⟩
        have hl := len vs (.of eH)
        exact q m F H (.refl ..) S _ (it_live em (.inr eo)) (by show ws.length ≤ _; rw [← dd.length]; exact hl)
      · cases ew
    · exact q.elim
  | d x =>
    have r : Dp X.K F v x := r
    cases r <;> try exact q.elim
    case str z =>
      simp only [itemsOf] at q
      split at q
      · rename_i ws ew
        split at ew
        · rename_i hz
          cases ew
          exact .inl ⟨z, rfl, q m F H (.refl ..) S _ it_str (by simp only [List.length_map, Array.length_toList]; rw [← szE]; exact hz)⟩
        · cases ew
      · exact q.elim
    case lst a vs ds sq dd =>
      refine .inr ⟨a, rfl, .inl ⟨⟨vs, S.hr.sub.sql sq⟩, fun len => ?_⟩⟩
      have hl := len vs (S.hr.sub.sql sq)
      exact q m F H (.refl ..) S _ (it_list sq dd) (by simp only [List.length_map]; rw [← dd.length]; exact hl)
    case tup a vs ds sq dd =>
      refine .inr ⟨a, rfl, .inr ⟨⟨vs, S.hr.sub.sqt sq⟩, fun len => ?_⟩⟩
      have hl := len vs (S.hr.sub.sqt sq)
      exact q m F H (.refl ..) S _ (it_tup sq dd) (by simp only [List.length_map]; rw [← dd.length]; exact hl)
theorem rg_ok {lo hi : Int} (h : rgOk lo hi = true) : -(2 ^ 61) ≤ lo ∧ lo < 2 ^ 61 ∧ -(2 ^ 61) ≤ hi ∧ hi < 2 ^ 61 ∧ hi - lo ≤ 16777216 := by unfold rgOk at h; exact of_decide_eq_true h
theorem up_len {lo hi : Int} (h : rgOk lo hi = true) : (rangeUp lo hi).length ≤ sizeLine := by
  have := rg_ok h
  rw [rangeUp, List.length_map, List.length_range, PySem.sizeLine_eq]
  omega
theorem dn_len {lo hi : Int} (h : rgOk lo hi = true) : (rangeDn hi lo).length ≤ sizeLine := by
  have := rg_ok h
  rw [rangeDn, List.length_map, List.length_range, PySem.sizeLine_eq]
  omega
theorem snd_rg1 {a : E} (ha : SndE M xr T n b B a) : SndIt M xr T n b B (.rg1 a) := by
  intro X Wx sc tg p k h
  cases p <;> try (simp only [matIt, Bool.false_eq_true] at h; done)
  rename_i pf ps kw pos
  cases pf <;> try (simp [matIt] at h; done)
  rename_i x p2
  rcases ps with _ | ⟨p, _ | ⟨p3, ps⟩⟩ <;> try (simp [matIt] at h; done)
  cases kw <;> try (simp [matIt] at h; done)
  simp only [matIt, Bool.and_eq_true, decide_eq_true_eq] at h
  obtain ⟨⟨⟨rfl, h1⟩, h2⟩, h3⟩ := h
  have a1 := (ha X Wx sc p k h3).pe
  refine (pi_range1 (p := p2) (pos := pos) (gl_of k.hs h1) (k.bl _ (by decide +kernel)) (pa_cons a1 pa_nil (star1 h2)) (by rw [star1 h2]; rfl)).weak fun σ H G q => ?_
  simp only [tI, evIt] at q
  refine tI_of (ra := evE b (callN T n) a) q fun m F env hq H w v S r q => ?_
  split at q
  · rename_i j
    split at q
    · rename_i hr
      have r : Dp X.K F v (.int j) := r
      cases r
      have hj := rg_ok hr
      refine ⟨j, rfl, by omega, by omega, ?_⟩
      have e : j.toNat = (j - 0).toNat := by rw [Int.sub_zero]
      rw [e]
      exact q m F H (.refl ..) S _ it_up (up_len hr)
    · exact q.elim
  · exact q.elim
theorem tI_of2 {K : PySem.W.Frag} {Wx : WX} {ra rb : Vars → Hq → R W} {g : W → W → Hq → R (List W × Option Nat)} {σ : L2.St} {H : Hp} {G : L2.It → Hp → Prop} {Q' : List V → Hp → Prop} (p : tI K xr B Wx (fun env h => (ra env h).bind fun w h => (rb env h).bind fun v h => g w v h) σ H G)
    (i : ∀ m F env h H w v w2 v2, SR K B m F env h σ H → WR K m F v w → WR K m F v2 w2 → PostG K xr B Wx m F env σ H (g w w2 h) (fun ws h' m' F' H' => ∀ J, ItOk K ws.2 h' m' F' J ws.1 → ws.1.length ≤ sizeLine → G J H') → Q' [v, v2] H) : tCons (tE K xr B Wx ra) (tCons (tE K xr B Wx rb) tNil) σ H Q' := by
  obtain ⟨m, F, env, h, S, p⟩ := p
  refine ⟨m, F, env, h, S, p.bind.mono fun w h1 m1 F1 H1 x1 S1 p v rv => ⟨m1, F1, env, h1, S1, p.bind.mono fun w2 h2 m2 F2 H2 x2 S2 p v2 rv2 => ?_⟩⟩
  exact i m2 F2 env h2 H2 w v w2 v2 S2 (wr_mono x2.ml x2.sub rv) rv2 p
theorem snd_rg2 {a c : E} (ha : SndE M xr T n b B a) (hc : SndE M xr T n b B c) : SndIt M xr T n b B (.rg2 a c) := by
  intro X Wx sc tg p k h
  cases p <;> try (simp only [matIt, Bool.false_eq_true] at h; done)
  rename_i pf ps kw pos
  cases pf <;> try (simp [matIt] at h; done)
  rename_i x p2
  rcases ps with _ | ⟨p, _ | ⟨p3, _ | ⟨p4, ps⟩⟩⟩ <;> try (simp [matIt] at h; done)
  cases kw <;> try (simp [matIt] at h; done)
  simp only [matIt, Bool.and_eq_true, decide_eq_true_eq] at h
  obtain ⟨⟨⟨⟨⟨rfl, h1⟩, h2⟩, h2'⟩, h3⟩, h4⟩ := h
  have a1 := (ha X Wx sc p k h3).pe
  have a2 := (hc X Wx sc p3 k h4).pe
  refine (pi_range2 (p := p2) (pos := pos) (gl_of k.hs h1) (k.bl _ (by decide +kernel)) (pa_cons a1 (pa_cons a2 pa_nil (star1 h2')) (star1 h2)) (by rw [star1 h2, star1 h2']; rfl) (by rw [star1 h2']; rfl)).weak fun σ H G q => ?_
  simp only [tI, evIt] at q
  refine tI_of2 (ra := evE b (callN T n) a) (rb := evE b (callN T n) c) q fun m F env hq H w v w2 v2 S r r2 q => ?_
  split at q
  · rename_i i j
    split at q
    · rename_i hr
      have r : Dp X.K F v (.int i) := r
      have r2 : Dp X.K F v2 (.int j) := r2
      cases r
      cases r2
      have hj := rg_ok hr
      exact ⟨i, j, rfl, ⟨by omega, by omega, by omega, by omega⟩, q m F H (.refl ..) S _ it_up (up_len hr)⟩
    · exact q.elim
  · exact q.elim
theorem snd_rgd {a c : E} (ha : SndE M xr T n b B a) (hc : SndE M xr T n b B c) : SndIt M xr T n b B (.rgd a c) := by
  intro X Wx sc tg p k h
  cases p <;> try (simp only [matIt, Bool.false_eq_true] at h; done)
  rename_i pf ps kw pos
  cases pf <;> try (simp [matIt] at h; done)
  rename_i x p2
  rcases ps with _ | ⟨p, _ | ⟨p3, _ | ⟨p4, _ | ⟨p5, ps⟩⟩⟩⟩ <;> try (simp [matIt] at h; done)
  cases kw <;> try (simp [matIt] at h; done)
  simp only [matIt, Bool.and_eq_true, decide_eq_true_eq] at h
  obtain ⟨⟨⟨⟨⟨⟨rfl, h0⟩, h1⟩, h2⟩, h2'⟩, h3⟩, h4⟩ := h
  obtain ⟨kk, pos4, pos3, rfl⟩ : ∃ kk pos4 pos3, p4 = .UnaryOp .USub (.Constant (.int 1) kk pos4) pos3 := by
    cases p4 <;> try (simp [isM1] at h0; done)
    rename_i o pc pos3
    cases o <;> try (simp [isM1] at h0; done)
    cases pc <;> try (simp [isM1] at h0; done)
    rename_i cc kk pos4
    cases cc <;> try (simp [isM1] at h0; done)
    simp only [isM1, decide_eq_true_eq] at h0
    subst h0
    exact ⟨_, _, _, rfl⟩
  have a1 := (ha X Wx sc p k h3).pe
  have a2 := (hc X Wx sc p3 k h4).pe
  have a3 : PE X (.UnaryOp .USub (.Constant (.int 1) kk pos4) pos3) (tUn (rU fun i => .int (-i)) (tC (.int 1))) := pe_un un_neg pe_int
  refine (pi_range3 (p := p2) (pos := pos) (gl_of k.hs h1) (k.bl _ (by decide +kernel)) (pa_cons a1 (pa_cons a2 (pa_cons a3 pa_nil rfl) (star1 h2')) (star1 h2)) (star1 h2) (by rw [star1 h2']; rfl)).weak fun σ H G q => ?_
  simp only [tI, evIt] at q
  obtain ⟨m, F, env, h, S, p⟩ := q
  refine ⟨m, F, env, h, S, p.bind.mono fun w h1 m1 F1 H1 x1 S1 p1 v rv => ⟨m1, F1, env, h1, S1, p1.bind.mono fun w2 h2 m2 F2 H2 x2 S2 p2 v2 rv2 => ?_⟩⟩
  clear p p1
  refine ⟨1, rfl, ?_⟩
  split at p2
  · rename_i i j
    split at p2
    · rename_i hr
      have r : Dp X.K F1 v (.int i) := rv
      have r2 : Dp X.K F2 v2 (.int j) := rv2
      cases r
      cases r2
      have hj := rg_ok hr
      exact ⟨i, j, -1, (i - j).toNat, rfl, RgC.neg (by omega) (by omega) (by omega) (by omega), p2 m2 F2 H2 (.refl ..) S2 _ it_dn (dn_len hr)⟩
    · exact p2.elim
  · exact p2.elim

theorem own_map {N : List Str} {sto : Str → Bool} : ∀ {t : List Nat} {ps : List Expr}, matTs N sto t ps = true → (ownOf N t).map (·.2) = t
  | [], _, _ => rfl
  | i :: is, [], h => by simp [matTs] at h
  | i :: is, p :: ps, h => by
    cases p <;> simp only [matTs, Bool.false_eq_true] at h
    simp only [Bool.and_eq_true, isAt, decide_eq_true_eq] at h
    obtain ⟨⟨h1, _⟩, h3⟩ := h
    have ih := own_map h3
    unfold ownOf at ih ⊢
    rw [List.filterMap_cons, h1]
    simp only [Option.map_some, List.map_cons, ih]
theorem own_mapT {N : List Str} {sto : Str → Bool} {t : List Nat} {u : Bool} {tg : Expr} (h : matT N sto t u tg = true) : (ownOf N t).map (·.2) = t := by
  unfold matT at h
  split at h
  · rename_i i x pos
    simp only [Bool.and_eq_true, isAt, decide_eq_true_eq] at h
    simp [ownOf, h.1]
  · exact own_map h
  · cases h
theorem blk_ok {X : Cx} {Wx : WX} {sc scope : Scope} (k : XOk X Wx M xr T n sc) (s : Shared) (H : Hp) (C : Addr) (cl : List (Str × Addr)) (fp : List Addr) : XOk (X.blk s H scope (compEnvC scope cl C X.env) fp) WF M xr T n (relS scope sc) :=
  ⟨k.calm, k.nd, k.hN, (by show relS scope X.env.scope = _; rw [k.hs]), takes0, k.hu, k.hw, k.gd, k.room, k.bl, k.gls, k.fns⟩
theorem blk_sto {X : Cx} {scope : Scope} {x : Str} (s : Shared) (H : Hp) (C : Addr) (cl : List (Str × Addr)) (fp : List Addr) (h : isSto scope x = true) :
    Loc (X.blk s H scope (compEnvC scope cl C X.env) fp).env.scope x ∧ ((X.blk s H scope (compEnvC scope cl C X.env) fp).fn x = true ∨ (X.blk s H scope (compEnvC scope cl C X.env) fp).env.scope.names.lookup x = some .local) := by
  rcases sto_of h with h | h
  · have q : (relS scope X.env.scope).names.lookup x = some .local := lookup_relS_keep (by decide) h
    exact ⟨.inl q, .inr q⟩
  · have q : (relS scope X.env.scope).names.lookup x = some .cell := lookup_relS_keep (by decide) h
    exact ⟨.inr q, .inl (by show (scope.names.lookup x == some NameKind.cell) = true; rw [h]; rfl)⟩
theorem noset {it : Expr} {env : Env} (h : notSet it = true) : ∀ x, foldedSetIterable it env x = pure x := by
  intro x
  cases it <;> first | rfl | (simp [notSet] at h)
/-- all that a comprehension needs -/
structure LcOk (X : Cx) (xr : XRel) (B : List Nat) (Wx : WX) (T : List FD) (n b : Nat) (t : List Nat) (u : Bool) (it : It) (c : Oe) (e : E) (pe tg pi : Expr) (ifs : List Expr) (scope : Scope) (own : List (Str × Nat)) : Prop where
  hi : PI X tg pi (tI X.K xr B Wx (evIt b (callN T n) it))
  ok : BlkOk X.N X.env.scope scope own
  hg : ∀ (s : Shared) (H : Hp) (C : Addr) (cl : List (Str × Addr)) (fp : List Addr), PG (X.blk s H scope (compEnvC scope cl C X.env) fp) tg (gT X.K t u)
  ht : ∀ (s : Shared) (H : Hp) (C : Addr) (cl : List (Str × Addr)) (fp : List Addr), PTs (X.blk s H scope (compEnvC scope cl C X.env) fp) ifs (tO X.K xr B WF (evOe b (callN T n) c))
  he : ∀ (s : Shared) (H : Hp) (C : Addr) (cl : List (Str × Addr)) (fp : List Addr), PE (X.blk s H scope (compEnvC scope cl C X.env) fp) pe (tE X.K xr B WF (evE b (callN T n) e))
  hs : ∀ x, foldedSetIterable pi X.env x = pure x
  hm : own.map (·.2) = t
  hne : t ≠ []
theorem lc_ok {X : Cx} {Wx : WX} {sc : Scope} {kk : Nat} {t : List Nat} {u : Bool} {it : It} {c : Oe} {e : E} {pe tg pi : Expr} {ifs : List Expr} {scope : Scope} {a : Int} {pos : Pos} (k : XOk X Wx M xr T n sc) (hit : SndIt M xr T n b B it) (hc : ∀ e, c = .some e → SndE M xr T n b B e) (he : SndE M xr T n b B e)
    (h : matE M sc (.lc kk t u it c e) (.ListComp pe [⟨tg, pi, ifs, a⟩] scope pos) = true) : a = 0 ∧ LcOk X xr B Wx T n b t u it c e pe tg pi ifs scope (ownOf M.N t) := by
  simp only [matE, Bool.and_eq_true, decide_eq_true_eq, Bool.not_eq_true'] at h
  obtain ⟨⟨⟨⟨⟨⟨⟨h0, hn⟩, h1⟩, h2⟩, h3⟩, h4⟩, h5⟩, h6⟩ := h
  refine ⟨h0, hit X Wx sc tg pi k h4, ?_, fun s H C cl fp => ?_, fun s H C cl fp => ?_, fun s H C cl fp => ?_, noset h1, own_mapT h3, ?_⟩
  · rw [k.hN, k.hs]; exact blkOk_by h2
  · exact pg_T (X := X.blk s H scope (compEnvC scope cl C X.env) fp) k.calm k.hN k.nd (fun x hx => blk_sto s H C cl fp hx) h3
  · have kb := blk_ok (scope := scope) k s H C cl fp
    cases c with
    | none =>
      cases ifs with
      | cons _ _ => simp [matIfs] at h5
      | nil =>
        refine PTs.weak pts_nil fun σ H Q q => ?_
        obtain ⟨m, F, env, hq, S, q⟩ := q
        obtain ⟨j, ej, q⟩ := q m F H (.refl ..) S
        cases ej
        exact q
    | some ce =>
      rcases ifs with _ | ⟨p, _ | ⟨p2, ps⟩⟩ <;> try (simp [matIfs] at h5; done)
      simp only [matIfs, Bool.and_eq_true] at h5
      refine (pts_one ((hc ce rfl _ _ _ p kb h5.1).pt h5.2)).weak fun σ H Q q => ?_
      obtain ⟨m, F, env, hq, S, q⟩ := q
      simp only [evOe] at q
      refine ⟨m, F, env, hq, S, q.bind.mono fun w h1 m1 F1 H1 x1 S1 q => ?_⟩
      obtain ⟨j, ej, q2⟩ := q m1 F1 H1 (.refl ..) S1
      clear q
      unfold boolO at ej
      split at ej
      · rename_i e2; cases e2
      · rename_i e2; cases e2; cases ej; exact ⟨_, rfl, q2⟩
      · cases ej
  · exact (he _ _ _ pe (blk_ok (scope := scope) k s H C cl fp) h6).pe
  · intro z; rw [z] at hn; simp at hn
theorem lc_ev {K : PySem.W.Frag} {Wx : WX} {kk : Nat} {t : List Nat} {u : Bool} {it : It} {c : Oe} {e : E} {σ : L2.St} {H : Hp} {Q : VK} (hne : t ≠ []) (q : tE K xr B Wx (evE b (callN T n) (.lc kk t u it c e)) σ H Q) :
    tLc (tI K xr B Wx (evIt b (callN T n) it)) (gT K t u) (tO K xr B WF (evOe b (callN T n) c)) (tE K xr B WF (evE b (callN T n) e)) t σ H Q := by
  refine lc_read (k := kk) hne ?_
  simp only [tE, evE] at q
  exact q
theorem snd_lc {kk : Nat} {t : List Nat} {u : Bool} {it : It} {c : Oe} {e : E} (hit : SndIt M xr T n b B it) (hc : ∀ e, c = .some e → SndE M xr T n b B e) (he : SndE M xr T n b B e) : SndE M xr T n b B (.lc kk t u it c e) := by
  intro X Wx sc p k h
  cases p <;> try (simp only [matE, Bool.false_eq_true] at h; done)
  rename_i pe gs scope pos
  rcases gs with _ | ⟨⟨tg, pi, ifs, a⟩, _ | ⟨g2, gs⟩⟩ <;> try (simp [matE] at h; done)
  obtain ⟨rfl, L⟩ := lc_ok k hit hc he h
  refine SE.of_plain ((pe_lc k.calm k.nd L.hi L.ok L.hg L.ht L.he L.hs).weak fun σ H Q q => ?_) (fun _ => rfl) rfl
  rw [L.hm]
  exact lc_ev L.hne q

mutual
theorem sndE (hb : b ∈ B) (hB : ∀ c ∈ B, c ≤ b) : ∀ e : E, SndE M xr T n b B e
  | .bad => snd_bad
  | .dnew => snd_dnew
  | .dnewI => snd_dnewI
  | .call0 f => snd_call0 hb hB
  | .glb i => snd_glb i
  | .trg t a => snd_trg (sndE hb hB a)
  | .isa c a => snd_isa (sndE hb hB a)
  | .dlg kvs k d => snd_dlg (sndE hb hB k) (sndE hb hB d)
  | .var i => snd_var i
  | .lit c => snd_lit c
  | .tup es => snd_tup (sndEs hb hB es)
  | .lst es => snd_lst (sndEs hb hB es)
  | .lstM es => snd_lstM (sndEs hb hB es)
  | .lsw es => snd_lsw (sndEs hb hB es)
  | .bin o x y => snd_bin (sndE hb hB x) (sndE hb hB y)
  | .binM o x y => snd_binM (sndE hb hB x) (sndE hb hB y)
  | .neg x => snd_neg (sndE hb hB x)
  | .nt x => snd_nt (sndE hb hB x)
  | .cmp o x y => snd_cmp (sndE hb hB x) (sndE hb hB y)
  | .isN x => snd_isN (sndE hb hB x)
  | .isB n k x => snd_isB (sndE hb hB x)
  | .notN x => snd_notN (sndE hb hB x)
  | .cmp2 o p x y z => snd_cmp2 (sndE hb hB x) (sndE hb hB y) (sndE hb hB z)
  | .one x => snd_one (sndE hb hB x)
  | .and x y => snd_and (sndE hb hB x) (sndE hb hB y)
  | .or x y => snd_or (sndE hb hB x) (sndE hb hB y)
  | .ife c x y => snd_ife (sndE hb hB c) (sndE hb hB x) (sndE hb hB y)
  | .idx x i => snd_idx (sndE hb hB x) (sndE hb hB i)
  | .slc x lo hi => snd_slc (sndE hb hB x) (sndOe hb hB lo) (sndOe hb hB hi)
  | .rev x => snd_rev (sndE hb hB x)
  | .blt f es => snd_blt (sndEs hb hB es)
  | .mth f o es => snd_mth (sndE hb hB o) (sndEs hb hB es)
  | .call f es => snd_call hb hB (sndEs hb hB es)
  | .sset x => snd_sset (sndE hb hB x)
  | .lc k t u it c e => snd_lc (sndIt hb hB it) (sndOe hb hB c) (sndE hb hB e)
theorem sndEs (hb : b ∈ B) (hB : ∀ c ∈ B, c ≤ b) : ∀ es : Es, SndEs M xr T n b B es
  | .nil => snd_nil
  | .cons e es => snd_cons (sndE hb hB e) (sndEs hb hB es)
theorem sndOe (hb : b ∈ B) (hB : ∀ c ∈ B, c ≤ b) : ∀ (o : Oe) (e : E), o = .some e → SndE M xr T n b B e
  | .none, _, h => by cases h
  | .some x, e, h => by cases h; exact sndE hb hB x
theorem sndIt (hb : b ∈ B) (hB : ∀ c ∈ B, c ≤ b) : ∀ it : It, SndIt M xr T n b B it
  | .e a => snd_it_e (sndE hb hB a)
  | .rg1 a => snd_rg1 (sndE hb hB a)
  | .rg2 a c => snd_rg2 (sndE hb hB a) (sndE hb hB c)
  | .rgd a c => snd_rgd (sndE hb hB a) (sndE hb hB c)
end
end
end Ev

/-! EvL: statements (matS, sndS). -/
namespace Ev
open PySem PySem.Spec L2
variable [Wd]

def notLC : Expr → Bool
  | .ListComp _ _ _ _ => false
  | .SetComp _ _ _ _ => false
  | .DictComp _ _ _ _ _ => false
  | _ => true
def isName : Expr → Bool
  | .Name _ _ => true
  | _ => false
def notTup : Expr → Bool
  | .Tuple _ _ _ => false
  | _ => true
/-- a comprehension that is stored in its own way -/
def swaps (sc : Scope) (tg p : Expr) : Bool := match p, tg with
  | .ListComp _ _ scope pos, .Name y py => (match sc.kind with | .function => true | _ => false) && decide (sc.names.lookup y = some .local) && (py.line == pos.line) && !(scope.names.any fun (n, k) => n == y && (k == .local || k == .cell))
  | _, _ => false
def swaps0 (sc : Scope) (tg p : Expr) : Bool := match p, tg with
  | .ListComp _ _ scope pos, .Name y py => (sc.kind == .function && sc.names.lookup y == some .local && py.line == pos.line && !(scope.names.any fun (n, k) => n == y && (k == .local || k == .cell)))
  | _, _ => false

def subOf : Expr → Option (Expr × Expr)
  | .Subscript po pi _ => some (po, pi)
  | _ => none
def appOf : Expr → Option (Expr × Str × Pos × Expr × Pos)
  | .Call (.Attribute po x ap) [p] [] cp => some (po, x, ap, p, cp)
  | _ => none
mutual
def matS (M : ME) (kp : List Nat) (sc : Scope) : S → Stmt → Bool
  | .bad, _ => true
  | .asg t u e, .Assign [tg] p _ => matT M.N (isSto sc) t u tg && t.all (fun i => !kp.contains i) && matE M sc e p && (isName tg || notTup p) && (swaps sc tg p || notLC p || !swaps0 sc tg p)
  | .set o i e, .Assign [tg] p _ => match subOf tg with
    | some (po, pi) => notSlice pi && matE M sc o po && matE M sc i pi && matE M sc e p
    | none => false
  | .app o e, .Expr q _ => match appOf q with
    | some (po, x, ap, p, cp) => decide (x = "append") && notCall0 po && (ap.endLine == cp.line) && notStar p && matE M sc o po && matE M sc e p
    | none => false
  | .expr e, .Expr p _ => notLC p && matE M sc e p
  | .ret e, .Return (some p) _ => matE M sc e p
  | .retN, .Return none _ => true
  | .ifs c a b, .If p pa pb _ => notIf p && matE M sc c p && matSs M kp sc a pa && matSs M kp sc b pb
  | .forS t u it s, .For tg p ps [] _ => matT M.N (isSto sc) t u tg && t.all (fun i => !kp.contains i) && notSet p && matIt M sc it p && matSs M kp sc s ps
  | .whl _ c s, .While p ps [] _ => notIf p && matE M sc c p && matSs M kp sc s ps
  | .pass, .Pass _ => true
  | .brk, .Break _ => true
  | .cnt, .Continue _ => true
  | _, _ => false
def matSs (M : ME) (kp : List Nat) (sc : Scope) : Ss → List Stmt → Bool
  | .nil, [] => true
  | .cons (.frz i) ss, ps => matSs M kp sc ss ps
  | .cons s ss, p :: ps => matS M kp sc s p && matSs M kp sc ss ps
  | _, _ => false
end

def Kp (kp : List Nat) (σ σ' : L2.St) : Prop := σ'.length = σ.length ∧ ∀ i ∈ kp, σ'[i]? = σ[i]?
theorem Kp.refl (kp : List Nat) (σ : L2.St) : Kp kp σ σ := ⟨rfl, fun _ _ => rfl⟩
theorem Kp.trans {kp : List Nat} {a b c : L2.St} (h : Kp kp a b) (g : Kp kp b c) : Kp kp a c := ⟨g.1.trans h.1, fun i hi => (g.2 i hi).trans (h.2 i hi)⟩
section
variable {K : PySem.W.Frag} {xr : XRel}
def PostS (K : PySem.W.Frag) (xr : XRel) (B : List Nat) (Wx : WX) (kp : List Nat) (m : List Addr) (F H : Hp) (σ : L2.St) (r : R Fl) (D : Ends) : Prop := match r with
  | .ok (.nx env') h' => ∀ m' F' H' σ', Ext m F H m' F' H' → SR K B m' F' env' h' σ' H' → Kp kp σ σ' → D.nx σ' H'
  | .ok (.bk env') h' => ∀ m' F' H' σ', Ext m F H m' F' H' → SR K B m' F' env' h' σ' H' → Kp kp σ σ' → D.bk σ' H'
  | .ok (.ct env') h' => ∀ m' F' H' σ', Ext m F H m' F' H' → SR K B m' F' env' h' σ' H' → Kp kp σ σ' → D.ct σ' H'
  | .ok (.rt w) h' => ∀ m' F' H' v, Ext m F H m' F' H' → HR K B m' F' h' H' → WR K m' F' v w → D.rt v H'
  | .ex c ds h' => ∀ m' F' H' cls dx σ', Ext m F H m' F' H' → HR K B m' F' h' H' → xr c ds cls dx F' H' → Kp kp σ σ' → Wx cls dx σ' H'
  | .bad => False
def tS (K : PySem.W.Frag) (xr : XRel) (B : List Nat) (Wx : WX) (kp : List Nat) (f : Vars → Hq → R Fl) : TS := fun D σ H => ∃ m F env h, SR K B m F env h σ H ∧ PostS K xr B Wx kp m F H σ (f env h) D
variable {B : List Nat} {Wx : WX} {kp : List Nat} {m m' : List Addr} {F F' H H' : Hp} {env : Vars} {h : Hq} {σ σ' : L2.St} {D : Ends}
theorem PostS.shift {r : R Fl} (p : PostS K xr B Wx kp m F H σ r D) (x : Ext m F H m' F' H') (k : Kp kp σ σ') : PostS K xr B Wx kp m' F' H' σ' r D := by
  cases r with
  | ok f h' =>
    cases f with
    | nx env => exact fun m2 F2 H2 σ2 e s q => p m2 F2 H2 σ2 (x.trans e) s (k.trans q)
    | bk env => exact fun m2 F2 H2 σ2 e s q => p m2 F2 H2 σ2 (x.trans e) s (k.trans q)
    | ct env => exact fun m2 F2 H2 σ2 e s q => p m2 F2 H2 σ2 (x.trans e) s (k.trans q)
    | rt w => exact fun m2 F2 H2 v e s q => p m2 F2 H2 v (x.trans e) s q
  | ex c ds h' => exact fun m2 F2 H2 cls dx σ2 e s y q => p m2 F2 H2 cls dx σ2 (x.trans e) s y (k.trans q)
  | bad => exact p
/-- an expression, then the rest of the statement -/
theorem PostS.bindE {α : Type} {r : R α} {f : α → Hq → R Fl} (p : PostS K xr B Wx kp m F H σ (r.bind f) D) : PostG K xr B Wx m F env σ H r (fun a h1 m1 F1 H1 => PostS K xr B Wx kp m1 F1 H1 σ (f a h1) D) := by
  cases r with
  | ok a h1 => exact fun m1 F1 H1 e s => PostS.shift p e (.refl ..)
  | ex c ds h1 => exact fun m1 F1 H1 cls dx e s y => p m1 F1 H1 cls dx σ e s y (.refl ..)
  | bad => exact p
theorem PostS.nx {env' : Vars} (p : PostS K xr B Wx kp m F H σ (.ok (.nx env') h) D) (s : SR K B m F env' h σ' H) (k : Kp kp σ σ') : D.nx σ' H := p m F H σ' (.refl ..) s k
end

theorem kp_set {kp : List Nat} {σ : L2.St} {i : Nat} {y : Option V} (h : kp.contains i = false) : Kp kp σ (σ.set i y) := by
  refine ⟨by simp, fun j hj => ?_⟩
  rw [List.getElem?_set_ne]
  intro e
  subst e
  rw [List.contains_iff_mem.mpr hj] at h
  cases h
theorem kp_sAll {kp : List Nat} : ∀ {t : List Nat} {xs : List V} {σ : L2.St}, t.all (fun i => !kp.contains i) = true → Kp kp σ (sAll t xs σ)
  | [], _, _, _ => by simp only [sAll]; exact .refl _ _
  | _ :: _, [], _, _ => by simp only [sAll]; exact .refl _ _
  | i :: is, x :: xs, σ, h => by
    simp only [sAll]
    simp only [List.all_cons, Bool.and_eq_true, Bool.not_eq_true'] at h
    exact (kp_set h.1).trans (kp_sAll h.2)
section
variable {K : PySem.W.Frag} {xr : XRel} {B : List Nat} {Wx : WX} {kp : List Nat} {m : List Addr} {F H : Hp} {env env' : Vars} {h : Hq} {σ : L2.St}
/-- a value comes to its slots -/
theorem bind_asg {t : List Nat} {u : Bool} {w : W} {x : V} {Q : L2.St → Hp → Prop} (e : bindT t u w env = some env') (r : WR K m F x w) (s : SR K B m F env h σ H) (hk : t.all (fun i => !kp.contains i) = true)
    (q : ∀ σ2, SR K B m F env' h σ2 H → Kp kp σ σ2 → Q σ2 H) : gT K t u x σ H Q := by
  unfold bindT at e
  split at e
  · split at e
    · rename_i i
      cases e
      exact q _ (s.setv r) (by simp only [List.all_cons, List.all_nil, Bool.and_true, Bool.not_eq_true'] at hk; exact kp_set hk)
    · cases e
  · split at e
    · rename_i xs
      split at e
      · rename_i hl
        cases e
        obtain ⟨a, us, rfl, sq, d⟩ : ∃ a us, x = .ref a ∧ SqT K F a us ∧ DpAll K F us xs := by
          have r : Dp K F x (.tuple xs) := r
          cases r with
          | tup h1 h2 => exact ⟨_, _, rfl, h1, h2⟩
        have hl' : us.length = t.length := by rw [d.length]; exact hl
        exact .inl ⟨a, us, rfl, s.hr.sub.sqt sq, hl', gNames_ok hl' (q _ (SR.setAll s (WRs.ofD d)) (kp_sAll hk))⟩
      · cases e
    · rename_i xs
      split at e
      · rename_i hl
        cases e
        obtain ⟨a, us, rfl, sq, d⟩ : ∃ a us, x = .ref a ∧ SqL K F a us ∧ DpAll K F us xs := by
          have r : Dp K F x (.list xs) := r
          cases r with
          | lst h1 h2 => exact ⟨_, _, rfl, h1, h2⟩
        have hl' : us.length = t.length := by rw [d.length]; exact hl
        exact .inr ⟨a, us, rfl, s.hr.sub.sql sq, hl', gNames_ok hl' (q _ (SR.setAll s (WRs.ofD d)) (kp_sAll hk))⟩
      · cases e
    · cases e
end

section
variable {M : ME} {xr : XRel} {T : List FD} {n b : Nat} {B : List Nat}
/-- a def's body: what leaves it -/
structure XOk2 (X : Cx) (Wx : WX) (M : ME) (xr : XRel) (T : List FD) (n : Nat) (sc : Scope) : Prop extends XOk X Wx M xr T n sc where
  po : PassesOwn (model X.prog X.w) X.A X.env X.xe
  fn : ∀ x, X.fn x = true
  kd : sc.kind = .function
def SndS (M : ME) (xr : XRel) (T : List FD) (n b : Nat) (B : List Nat) (s : S) : Prop := ∀ (X : Cx) (Wx : WX) (sc : Scope) (kp : List Nat) (p : Stmt), XOk2 X Wx M xr T n sc → matS M kp sc s p = true → PS X p (tS X.K xr B Wx kp (evS b (callN T n) s))
def SndSs (M : ME) (xr : XRel) (T : List FD) (n b : Nat) (B : List Nat) (ss : Ss) : Prop := ∀ (X : Cx) (Wx : WX) (sc : Scope) (kp : List Nat) (ps : List Stmt), XOk2 X Wx M xr T n sc → matSs M kp sc ss ps = true → PSs X ps (tS X.K xr B Wx kp (evSs b (callN T n) ss))

theorem bindS {K : PySem.W.Frag} {Wx : WX} {kp : List Nat} {ra : Vars → Hq → R W} {g : Vars → W → Hq → R Fl} {σ : L2.St} {H : Hp} {D : Ends} {Q' : VK} (p : tS K xr B Wx kp (fun env h => (ra env h).bind (g env)) D σ H)
    (i : ∀ m F env h H w v, SR K B m F env h σ H → WR K m F v w → PostS K xr B Wx kp m F H σ (g env w h) D → Q' v H) : tE K xr B Wx ra σ H Q' := by
  obtain ⟨m, F, env, h, S, p⟩ := p
  exact ⟨m, F, env, h, S, (p.bindE (env := env)).mono fun w h1 m1 F1 H1 x1 S1 p v rv => i m1 F1 env h1 H1 w v S1 rv p⟩

theorem swap_no {sc : Scope} {tg p : Expr} {l : Nat} {env : Env} (hs : env.scope = sc) (h : notLC p = true ∨ swaps0 sc tg p = false) (hk : sc.kind = .function) (hp : ∀ g k s q, p ≠ .SetComp g k s q) (hp2 : ∀ g g' k s q, p ≠ .DictComp g g' k s q) : swapsWithSole [tg] p l env = pure false := by
  show swapsWith p (some tg) l env = pure false
  have bk : env.blockKind = .function := by unfold Env.blockKind; rw [hs, hk]; rfl
  cases p <;> try rfl
  case SetComp => exact absurd rfl (hp _ _ _ _)
  case DictComp => exact absurd rfl (hp2 _ _ _ _ _)
  case ListComp g k s q =>
    rcases h with h | h
    · simp [notLC] at h
    · cases tg <;> try rfl
      rename_i y py
      simp only [swaps0] at h
      unfold swapsWith
      simp only [bk]
      have ek : env.kindOf y = sc.names.lookup y := by unfold Env.kindOf; rw [hs]
      rw [ek]
      rw [hk] at h
      show pure _ = pure false
      exact congrArg pure h
theorem mat_noset {sc : Scope} {e : E} {p : Expr} (h : matE M sc e p = true) : (∀ g k s q, p ≠ .SetComp g k s q) ∧ ∀ g g' k s q, p ≠ .DictComp g g' k s q := by
  refine ⟨fun g k s q z => ?_, fun g g' k s q z => ?_⟩
  · subst z; cases e <;> simp [matE, noSC] at h
  · subst z; cases e <;> simp [matE, noSC] at h
end
end Ev

/-! EvM: every statement (sndS). -/
namespace Ev
open PySem PySem.Spec L2
variable [Wd]
section
variable {M : ME} {xr : XRel} {T : List FD} {n b : Nat} {B : List Nat} (hb : b ∈ B) (hB : ∀ c ∈ B, c ≤ b)
theorem sto_all {X : Cx} {Wx : WX} {sc : Scope} (k : XOk2 X Wx M xr T n sc) {x : Str} (h : isSto sc x = true) : Loc X.env.scope x ∧ (X.fn x = true ∨ X.env.scope.names.lookup x = some .local) := by
  rw [k.hs]
  exact ⟨sto_of h, .inl (k.fn x)⟩
omit hb hB in
/-- o[i] = v: a list, a dict -/
def rSetG (K : PySem.W.Frag) : V → V → V → Hp → (Hp → Prop) → Prop := fun o i v H Q => rSetL o i v H Q ∨ (∃ a vs k, o = .ref a ∧ i = .int k ∧ H a = some (.dK vs) ∧ vs.length ≤ 1000000 ∧ vs.length < 1000000 ∧ Q (upd H a (.dK (putK vs (.inl k) v)))) ∨ ∃ a es kvs F d nk y b, o = .ref a ∧ i = .ref b ∧ HpLe F H ∧ H a = some (dctO a es) ∧ DK K F kvs es ∧ (es.map (·.1)).Nodup ∧ (a == sysModules) = false ∧ kvs.length < 1000000 ∧
  Dp K F (.ref b) d ∧ nkey d = some nk ∧ d.depth ≤ 8 ∧ Dp K F v y ∧ ∀ es', DK K F (dput kvs d y) es' → (es'.map (·.1)).Nodup → Q (upd H a (dctO a es'))
omit hb hB in
theorem set_G {X : Cx} (hw : X.w = Wd.w) (hu : X.A.units + 200 < cLine) : PSet X (rSetG X.K) := by
  intro pins s σ H o i v ov iv u Q I ro ri rv hq
  rcases hq with hq | ⟨a, vs, k, rfl, rfl, eH, _, hl, q⟩ | ⟨a, es, kvs, F, d, nk, y, b, rfl, rfl, le, eH, dk, nd, hz, hl, di, ek, hd, dv, q⟩
  · exact L2.set_list pins s σ H o i v ov iv u Q I ro ri rv hq
  · cases ro
    have szE := sizeLine_eq
    exact d_setItem (by show X.A.units + 1 < cLine; omega) I (DPut.k (k := .inl k) eH (by omega)) ri rv fun s' I' => ⟨_, I', q⟩
  · cases ro
    cases ri
    have dd := dk_of hw I le eH dk nd
    have len := dk.length
    have szE := sizeLine_eq
    refine wpAny_setItem_heap (hsz := by omega) (dk_room hu) (dk_is I le ek hd di) dd fun h' dd' hs => ?_
    obtain ⟨ob, _, _, hob, _⟩ := id dd'
    refine ⟨_, d_write I (by rw [eH]; exact True.intro) hs ⟨ob, hob⟩ (dk_ok hw dd'), q _ (dk.put ek hd di rv dv) ?_⟩
    obtain ⟨_, _, _, _, _, _, _, _, n⟩ := dd'
    exact n
theorem assignOne {tg : Expr} {env : Env} (h : ∀ e p, tg ≠ .Starred e p) : (assignEach [tg] env).map (·.2) = [assign tg env] := by
  cases tg <;> first | rfl | exact absurd rfl (h _ _)
include hb hB
theorem snd_asg {t : List Nat} {u : Bool} {e : E} : SndS M xr T n b B (.asg t u e) := by
  intro X Wx sc kp p k h
  cases p <;> try (simp only [matS, Bool.false_eq_true] at h; done)
  rename_i tgs p pos
  rcases tgs with _ | ⟨tg, _ | ⟨tg2, tgs⟩⟩ <;> try (simp [matS] at h; done)
  simp only [matS, Bool.and_eq_true] at h
  obtain ⟨⟨⟨⟨h1, h2⟩, h3⟩, h4⟩, h5⟩ := h
  have hg : PG X tg (gT X.K t u) := pg_T k.calm k.hN k.nd (fun x hx => sto_all k hx) h1
  have rd : ∀ {D σ H}, tS X.K xr B Wx kp (evS b (callN T n) (.asg t u e)) D σ H → tAsg (tE X.K xr B Wx (evE b (callN T n) e)) (gT X.K t u) D σ H := fun {D σ H} q => by
    simp only [tS, evS] at q
    refine bindS (ra := evE b (callN T n) e) q fun m F env hq H w v S r q => ?_
    split at q
    · rename_i env2 hb2
      exact bind_asg hb2 r S h2 fun σ2 S2 k2 => PostS.nx q S2 k2
    · exact q.elim
  by_cases hw : swaps sc tg p = true
  · -- stored as it is made
    cases p <;> try (simp [swaps] at hw; done)
    rename_i pe gs scope pos2
    cases tg <;> try (simp [swaps] at hw; done)
    rename_i y py
    cases e <;> try (simp [matE, noSC] at h3; done)
    rename_i kk t2 u2 it c e
    rcases gs with _ | ⟨⟨tg2, pi, ifs, a⟩, _ | ⟨g2, gs⟩⟩ <;> try (simp [matE] at h3; done)
    obtain ⟨rfl, L⟩ := lc_ok k.toXOk (sndIt hb hB it) (sndOe hb hB c) (sndE hb hB e) h3
    simp only [swaps, Bool.and_eq_true, decide_eq_true_eq, Bool.not_eq_true'] at hw
    obtain ⟨⟨⟨w1, w2⟩, w3⟩, w4⟩ := hw
    obtain ⟨i, rfl, rfl, hi⟩ : ∃ i, t = [i] ∧ u = false ∧ M.N[i]? = some y := by
      unfold matT at h1
      split at h1
      · rename_i i x pos heq
        cases heq
        simp only [Bool.and_eq_true, isAt, decide_eq_true_eq] at h1
        exact ⟨i, rfl, rfl, h1.1⟩
      · rename_i heq; cases heq
      · cases h1
    have hl : X.env.scope.names.lookup y = some .local := by rw [k.hs]; exact w2
    refine (ps_setLc (i := i) k.calm k.nd (by rw [k.hN]; exact hi) hl (sw_true (by rw [k.hs]; exact k.kd) hl w3 w4) L.hi L.ok L.hg L.ht L.he L.hs).weak fun D σ H q => ?_
    have q' := rd q
    unfold tAsg at q' ⊢
    rw [L.hm]
    exact lc_ev L.hne q'
  · have ns := mat_noset h3
    refine (ps_asg (sndE hb hB e X Wx sc p k.toXOk h3).pe hg ?_ ?_ ?_).weak fun D σ H q => rd q
    · refine swap_no k.hs ?_ k.kd ns.1 ns.2
      simp only [Bool.or_eq_true, Bool.not_eq_true'] at h5
      rcases h5 with (h5 | h5) | h5
      · exact absurd h5 hw
      · exact .inl h5
      · exact .inr h5
    · have hnl : ∀ ps q, tg ≠ .List ps q := fun ps q z => by
        subst z
        cases u <;> rcases t with _ | ⟨i, _ | ⟨j, t⟩⟩ <;> simp [matT] at h1
      unfold swappedStores
      simp only [Bool.or_eq_true] at h4
      rcases h4 with h4 | h4
      · cases tg <;> first | rfl | (simp [isName] at h4)
      · cases tg
        case List => exact absurd rfl (hnl _ _)
        case Tuple => cases p <;> first | rfl | (simp [notTup] at h4)
        all_goals rfl
    · exact assignOne fun a b z => by subst z; simp [matT] at h1
theorem snd_set {o i e : E} : SndS M xr T n b B (.set o i e) := by
  intro X Wx sc kp p k h
  cases p <;> try (simp only [matS, Bool.false_eq_true] at h; done)
  rename_i tgs p pos
  rcases tgs with _ | ⟨tg, _ | ⟨tg2, tgs⟩⟩ <;> try (simp [matS] at h; done)
  simp only [matS] at h
  cases tg <;> try (simp [subOf] at h; done)
  rename_i po pi pos2
  simp only [subOf, Bool.and_eq_true] at h
  obtain ⟨⟨⟨h1, h2⟩, h3⟩, h4⟩ := h
  have ns := mat_noset h4
  have ha : ∀ v, assign (.Subscript po pi pos2) X.env v = (do
      let ov ← holding [v] (eval po X.env)
      let iv ← holding [v, ov] (eval pi X.env)
      standAt pos2
      holding [v, ov, iv] (setItem ov iv v)
      release [v, ov, iv] []) := by
    intro v
    cases pi <;> first | rfl | (simp [notSlice] at h1)
  refine (ps_asg (sndE hb hB e X Wx sc p k.toXOk h4).pe (pg_sub (sndE hb hB o X Wx sc po k.toXOk h2).pe (sndE hb hB i X Wx sc pi k.toXOk h3).pe (set_G k.hw k.hu) ha) (swap_no k.hs ?_ k.kd ns.1 ns.2) ?_ rfl).weak fun D σ H q => ?_
  · cases p <;> first | exact .inl rfl | exact .inr rfl
  · rfl
  · simp only [tS, evS] at q
    obtain ⟨m, F, env, h, S, p⟩ := q
    refine ⟨m, F, env, h, S, (p.bindE (env := env)).mono fun w h1 m1 F1 H1 x1 S1 p1 v rv => ⟨m1, F1, env, h1, S1, (p1.bindE (env := env)).mono fun w2 h2 m2 F2 H2 x2 S2 p2 v2 rv2 => ⟨m2, F2, env, h2, S2, (p2.bindE (env := env)).mono fun w3 h3 m3 F3 H3 x3 S3 p3 v3 rv3 => ?_⟩⟩⟩
    clear p p1 p2
    replace rv := wr_mono (x2.trans x3).ml (x2.trans x3).sub rv
    replace rv2 := wr_mono x3.ml x3.sub rv2
    unfold evSet at p3
    split at p3
    · rename_i nn kk
      obtain ⟨a, em, rfl⟩ := rv2
      have rv3 : Dp X.K F3 v3 (.int kk) := rv3
      cases rv3
      split at p3
      · rename_i xs eo
        obtain ⟨fa, vs, eH, dd⟩ := S3.hr.ob nn _ a eo em
        split at p3
        · rename_i j x ej
          have rv : Dp X.K F3 v x := rv
          refine .inl ⟨a, vs, kk, j, rfl, rfl, eH, by rw [dd.length]; exact ej, ?_⟩
          obtain ⟨r', e'⟩ := S3.hr.put (u := .lst (vs.set j v)) (o := .lst (xs.set j x)) em fa ⟨fa, _, upd_same, dd.set rv j⟩ (fun c _ _ k hk => by simp [refs] at hk)
          exact p3 _ _ _ _ e' (S3.ext r' e') (.refl ..)
        · exact p3.elim
      · rename_i ws eo
        obtain ⟨fa, vs, eH, dd⟩ := S3.hr.ob nn _ a eo em
        split at p3
        · rename_i j ej
          have go : (∀ c ∈ B, nn < c → ∀ k ∈ refs (.lsw (ws.set j w)), k < c) → PostS X.K xr B Wx kp m3 F3 H3 σ (.ok (.nx env) (h3.set nn (.lsw (ws.set j w)))) D → rSetG X.K (.ref a) (.int kk) v H3 fun H4 => D.nx σ H4 := fun hc p3 => by
            refine .inl ⟨a, vs, kk, j, rfl, rfl, eH, by rw [dd.length]; exact ej, ?_⟩
            obtain ⟨r', e'⟩ := S3.hr.put (u := .lst (vs.set j v)) (o := .lsw (ws.set j w)) em fa ⟨fa, _, upd_same, dd.set rv j⟩ hc
            exact p3 _ _ _ _ e' (S3.ext r' e') (.refl ..)
          have old : ∀ c ∈ B, nn < c → ∀ (w' : W), refsW w' = [] ∨ c ≤ b → (∀ q, w' = .l q → c ≤ nn) → ∀ k ∈ refs (.lsw (ws.set j w')), k < c := fun c hc hn w' _ h' k hk => by
            obtain ⟨_, c2⟩ := S3.hr.clo c hc
            simp only [refs, List.mem_flatMap] at hk
            obtain ⟨y, hy, hk⟩ := hk
            rcases List.mem_or_eq_of_mem_set hy with hy | rfl
            · exact c2 nn _ k hn eo (by simp only [refs, List.mem_flatMap]; exact ⟨y, hy, hk⟩)
            · cases y with
              | d _ => simp [refsW] at hk
              | l q => exact absurd (h' q rfl) (by omega)
          cases w with
          | d x => exact go (fun c hc hn => old c hc hn _ (.inl rfl) (fun q z => nomatch z)) p3
          | l q =>
            simp only at p3
            split at p3
            · rename_i hle
              exact go (fun c hc hn => old c hc hn _ (.inr (hB c hc)) (fun q z => Nat.le_trans (hB c hc) hle)) p3
            · exact p3.elim
        · exact p3.elim
      · rename_i kvs eo
        obtain ⟨fa, vs, eH, di, hl⟩ := S3.hr.ob nn _ a eo em
        cases w with
        | l _ => exact p3.elim
        | d x =>
          simp only at p3
          split at p3
          · rename_i hlt
            have rv : Dp X.K F3 v x := rv
            have ln := di.length
            refine .inr (.inl ⟨a, vs, kk, rfl, rfl, eH, by omega, by omega, ?_⟩)
            have lput : (iput kvs kk x).length ≤ 1000000 := by
              unfold iput
              split
              · rw [List.length_map]; omega
              · rw [List.length_append]; simp; omega
            obtain ⟨r', e'⟩ := S3.hr.put (u := .dK (putK vs (.inl kk) v)) (o := .dki (iput kvs kk x)) em fa ⟨fa, _, upd_same, di.put kk rv, lput⟩ (fun c _ _ k hk => by simp [refs] at hk)
            exact p3 _ _ _ _ e' (S3.ext r' e') (.refl ..)
          · exact p3.elim
      · exact p3.elim
    · rename_i nn kk _
      obtain ⟨a, em, rfl⟩ := rv2
      have rv3 : Dp X.K F3 v3 kk := rv3
      split at p3
      · rename_i kvs eo
        obtain ⟨fa, es, eH, dk, nd, hz, hl⟩ := S3.hr.ob nn _ a eo em
        cases w with
        | l _ => exact p3.elim
        | d x =>
          simp only at p3
          split at p3
          · rename_i hk
            simp only [Bool.and_eq_true, decide_eq_true_eq] at hk
            obtain ⟨ks, nk, rfl, ek, hd⟩ := isKey_ok hk.1
            have rv : Dp X.K F3 v x := rv
            obtain ⟨b', rfl⟩ : ∃ b', v3 = .ref b' := by
              cases rv3 with
              | tup _ _ => exact ⟨_, rfl⟩
            refine .inr (.inr ⟨a, es, kvs, F3, .tuple ks, nk, x, b', rfl, rfl, S3.hr.sub, eH, dk, nd, hz, hk.2, rv3, ek, hd, rv, fun es' dk' nd' => ?_⟩)
            have lput : (dput kvs (.tuple ks) x).length ≤ 1000000 := by
              unfold dput
              split
              · rw [List.length_map]; omega
              · rw [List.length_append]; simp; omega
            obtain ⟨r', e'⟩ := S3.hr.put (u := dctO a es') (o := .dct (dput kvs (.tuple ks) x)) em fa ⟨fa, es', upd_same, dk', nd', hz, lput⟩ (fun c _ _ k hk => by simp [refs] at hk)
            exact p3 _ _ _ _ e' (S3.ext r' e') (.refl ..)
          · exact p3.elim
      · exact p3.elim
    · exact p3.elim
theorem snd_app {o e : E} : SndS M xr T n b B (.app o e) := by
  intro X Wx sc kp p k h
  cases p <;> try (simp only [matS, Bool.false_eq_true] at h; done)
  rename_i pe pos
  simp only [matS] at h
  cases pe <;> try (simp [appOf] at h; done)
  rename_i pf ps kw cp
  cases pf <;> try (simp [appOf] at h; done)
  rename_i po x ap
  rcases ps with _ | ⟨p, _ | ⟨p2, ps⟩⟩ <;> try (simp [appOf] at h; done)
  cases kw <;> try (simp [appOf] at h; done)
  simp only [appOf, Bool.and_eq_true, decide_eq_true_eq] at h
  obtain ⟨⟨⟨⟨⟨rfl, h0⟩, hl⟩, hn⟩, h1⟩, h2⟩ := h
  have a := (sndE hb hB o X Wx sc po k.toXOk h1).pe
  have c := (sndE hb hB e X Wx sc p k.toXOk h2).pe
  have hbase : attributeBase po "append" X.env (eval po X.env) = eval po X.env := by
    unfold attributeBase
    cases po <;> try rfl
    rename_i g as kws ps
    cases g <;> try rfl
    cases as <;> try rfl
    cases kws <;> try rfl
    simp [notCall0] at h0
  have hs := star1 (env := X.env) (ps := []) hn
  refine (ps_expr (pe_bm PySem.F.plainAttrs_list PySem.F.slot_list_append PySem.F.type_list_append mt_append a (pa_cons c pa_nil hs) hbase (by rw [hs]; rfl) hl hs rfl)).weak fun D σ H q => ?_
  simp only [tS, evS] at q
  obtain ⟨m, F, env, h, S, p0⟩ := q
  refine ⟨m, F, env, h, S, (p0.bindE (env := env)).mono fun w h1 m1 F1 H1 x1 S1 p1 v rv => ?_⟩
  clear p0
  split at p1
  · rename_i hrec
    unfold recvL at hrec
    split at hrec
    · rename_i nn
      obtain ⟨al, em, rfl⟩ := rv
      have ty : ∃ xs, SqL X.K H1 al xs := by
        split at hrec
        · rename_i eo
          obtain ⟨_, vs, eH, _⟩ := S1.hr.ob nn _ al eo em
          exact ⟨vs, .of eH⟩
        · rename_i eo
          obtain ⟨_, vs, eH, _⟩ := S1.hr.ob nn _ al eo em
          exact ⟨vs, .of eH⟩
        · cases hrec
      refine ⟨.inl ⟨rfl, ty⟩, m1, F1, env, h1, S1, (p1.bindE (env := env)).mono fun w2 h2 m2 F2 H2 x2 S2 p2 v2 rv2 => ?_⟩
      clear p1
      have em := x2.ml.get em
      simp only [evApp] at p2
      have szE := sz_eq
      split at p2
      · rename_i xs eo
        obtain ⟨fa, vs, eH, dd⟩ := S2.hr.ob nn _ al eo em
        split at p2
        · rename_i x
          split at p2
          · rename_i hlt
            have rv2 : Dp X.K F2 v2 x := rv2
            refine ⟨al, vs, v2, rfl, rfl, eH, by rw [dd.length]; omega, ?_⟩
            obtain ⟨r', e'⟩ := S2.hr.put (u := .lst (vs ++ [v2])) (o := .lst (xs ++ [x])) em fa ⟨fa, _, upd_same, dd.app (.cons rv2 .nil)⟩ (fun c _ _ k hk => by simp [refs] at hk)
            exact p2 _ _ _ _ e' (S2.ext r' e') (.refl ..)
          · exact p2.elim
        · exact p2.elim
      · rename_i ws eo
        obtain ⟨fa, vs, eH, dd⟩ := S2.hr.ob nn _ al eo em
        have go : ws.length < SZ → (∀ c ∈ B, nn < c → ∀ k ∈ refs (.lsw (ws ++ [w2])), k < c) → PostS X.K xr B Wx kp m2 F2 H2 σ (.ok (.nx env) (h2.set nn (.lsw (ws ++ [w2])))) D → rAppend (.ref al) [v2] H2 fun _ H4 => D.nx σ H4 := fun hlt hc p2 => by
          refine ⟨al, vs, v2, rfl, rfl, eH, by rw [dd.length]; omega, ?_⟩
          obtain ⟨r', e'⟩ := S2.hr.put (u := .lst (vs ++ [v2])) (o := .lsw (ws ++ [w2])) em fa ⟨fa, _, upd_same, dd.app (.cons rv2 .nil)⟩ hc
          exact p2 _ _ _ _ e' (S2.ext r' e') (.refl ..)
        have old : ∀ c ∈ B, nn < c → (∀ q, w2 = .l q → c ≤ nn) → ∀ k ∈ refs (.lsw (ws ++ [w2])), k < c := fun c hc hn' h' k hk => by
          obtain ⟨_, c2⟩ := S2.hr.clo c hc
          simp only [refs, List.mem_flatMap] at hk
          obtain ⟨y, hy, hk⟩ := hk
          rcases List.mem_append.mp hy with hy | hy
          · exact c2 nn _ k hn' eo (by simp only [refs, List.mem_flatMap]; exact ⟨y, hy, hk⟩)
          · have hy : y = w2 := by simpa using hy
            subst hy
            cases y with
            | d _ => simp [refsW] at hk
            | l q => exact absurd (h' q rfl) (by omega)
        cases w2 with
        | d x =>
          simp only at p2
          split at p2
          · rename_i hlt
            exact go hlt (fun c hc hn' => old c hc hn' (fun q z => nomatch z)) p2
          · exact p2.elim
        | l q =>
          simp only at p2
          split at p2
          · rename_i hlt
            exact go hlt.1 (fun c hc hn' => old c hc hn' (fun q z => Nat.le_trans (hB c hc) hlt.2)) p2
          · exact p2.elim
      · exact p2.elim
    · cases hrec
  · exact p1.elim
omit hb hB in
theorem if_read {X : Cx} {Wx : WX} {kp : List Nat} {rc : Vars → Hq → R W} {r1 r2 : Vars → Hq → R Fl} {D : Ends} {σ : L2.St} {H : Hp} (q : tS X.K xr B Wx kp (fun env h => (rc env h).bind fun v h => match v with
      | .d (.bool true) => r1 env h
      | .d (.bool false) => r2 env h
      | _ => .bad) D σ H) : tIfS (tT X.K xr B Wx rc) (tS X.K xr B Wx kp r1) (tS X.K xr B Wx kp r2) D σ H := by
  obtain ⟨m, F, env, h, S, p⟩ := q
  refine ⟨m, F, env, h, S, (p.bindE (env := env)).mono fun w h1 m1 F1 H1 x1 S1 p1 => ?_⟩
  clear p
  split at p1
  · exact ⟨true, rfl, iteT ⟨m1, F1, env, h1, S1, p1⟩⟩
  · exact ⟨false, rfl, iteF ⟨m1, F1, env, h1, S1, p1⟩⟩
  · exact p1.elim
omit hb hB in
theorem kpt_ex {α : Type} {q : Option Nat} {h h' : Hq} {c : Nat} {ds : List PyData} : kpt q h (.ex c ds h' : R α) = .ex c ds h' := by cases q <;> rfl
omit hb hB in
theorem kpt_bad0 {α : Type} {q : Option Nat} {h : Hq} : kpt q h (.bad : R α) = .bad := by cases q <;> rfl
omit hb hB in
theorem kpt_cases {α : Type} {q : Option Nat} {h h' : Hq} {a : α} : (kpt q h (.ok a h') = .ok a h' ∧ kept q h h') ∨ kpt q h (.ok a h') = .bad := by
  cases q with
  | none => exact .inl ⟨rfl, trivial⟩
  | some n =>
    by_cases e : h'[n]? = h[n]?
    · exact .inl ⟨by simp only [kpt, R.bind, if_pos e], e⟩
    · exact .inr (by simp only [kpt, R.bind, if_neg e])
omit hb hB in
theorem kpt_bad {X : Cx} {Wx : WX} {kp : List Nat} {m : List Addr} {F H : Hp} {σ : L2.St} {D : Ends} {q : Option Nat} {h : Hq} {f : Fl → Hq → R Fl} (p : PostS X.K xr B Wx kp m F H σ ((kpt q h (.bad : R Fl)).bind f) D) : False := by
  rw [kpt_bad0] at p
  exact p
omit hb hB in
theorem for_read {X : Cx} {Wx : WX} {kp : List Nat} {rit : Vars → Hq → R (List W × Option Nat)} {rb : Vars → Hq → R Fl} {t : List Nat} {u : Bool} {D : Ends} {σ : L2.St} {H : Hp} (hk : t.all (fun i => !kp.contains i) = true)
    (q : tS X.K xr B Wx kp (fun env h => (rit env h).bind fun ws h => forGo (fun w env h => kpt ws.2 h (match bindT t u w env with
      | some env => rb env h
      | none => .bad)) ws.1 env h) D σ H) : tFor (tI X.K xr B Wx rit) (gT X.K t u) (tS X.K xr B Wx kp rb) D σ H := by
  obtain ⟨m0, F0, env0, h0, S0, p⟩ := q
  refine ⟨m0, F0, env0, h0, S0, (p.bindE (env := env0)).mono fun wq h1 m1 F1 H1 x1 S1 p1 J hJ hwl => ?_⟩
  clear p
  obtain ⟨ws, qq⟩ := wq
  simp only at p1 hJ hwl
  refine ⟨fun i j σc H => j = ws.length - i ∧ i ≤ ws.length ∧ ∃ m F env h, Ext m1 F1 H1 m F H ∧ Kp kp σ σc ∧ SR X.K B m F env h σc H ∧ kept qq h1 h ∧ PostS X.K xr B Wx kp m F H σc (forGo (fun w env h => kpt qq h (match bindT t u w env with
      | some env => rb env h
      | none => .bad)) (ws.drop i) env h) D, ⟨ws.length, by simp, Nat.zero_le _, m1, F1, env0, h1, .refl .., .refl .., S1, .refl, p1⟩, ?_⟩
  rintro i j σc H ⟨rfl, hi, m, F, env, h, x, kk, S, hkp, p⟩
  obtain ⟨it1, it2⟩ := hJ B i m F h H x.ml x.sub S.hr hkp
  by_cases hlt : i < ws.length
  · have ed : ws.drop i = ws[i] :: ws.drop (i + 1) := List.drop_eq_getElem_cons hlt
    rw [ed] at p
    simp only [forGo] at p
    obtain ⟨go, yl⟩ := it1 ws[i] (by simp [hlt])
    refine .inr ⟨go, fun σ' H' => ∃ j', j' < ws.length - i ∧ j' = ws.length - (i + 1) ∧ i + 1 ≤ ws.length ∧ ∃ m F env h, Ext m1 F1 H1 m F H' ∧ Kp kp σ σ' ∧ SR X.K B m F env h σ' H' ∧ kept qq h1 h ∧ PostS X.K xr B Wx kp m F H' σ' (forGo (fun w env h => kpt qq h (match bindT t u w env with
      | some env => rb env h
      | none => .bad)) (ws.drop (i + 1)) env h) D, fun σ' H' n => ?_, fun y H' hy => ?_⟩
    · obtain ⟨j', a, b, c, d⟩ := n
      exact ⟨j', a, b, c, d⟩
    obtain ⟨eH, ry⟩ := yl y H' hy
    subst eH
    cases hbt : bindT t u ws[i] env with
    | none => rw [hbt] at p; exact (kpt_bad p).elim
    | some env2 =>
    rw [hbt] at p
    simp only at p
    refine bind_asg (kp := kp) hbt ry S hk fun σ2 S2 k2 => ⟨m, F, env2, h, S2, ?_⟩
    have next : ∀ {env3 : Vars} {h3 : Hq}, kept qq h h3 → PostS X.K xr B Wx kp m F H' σc (forGo (fun w env h => kpt qq h (match bindT t u w env with
      | some env => rb env h
      | none => .bad)) (ws.drop (i + 1)) env3 h3) D → ∀ m' F' H3 σ', Ext m F H' m' F' H3 → SR X.K B m' F' env3 h3 σ' H3 → Kp kp σ2 σ' → ∃ j', j' < ws.length - i ∧ j' = ws.length - (i + 1) ∧ i + 1 ≤ ws.length ∧ ∃ m F env h, Ext m1 F1 H1 m F H3 ∧ Kp kp σ σ' ∧ SR X.K B m F env h σ' H3 ∧ kept qq h1 h ∧ PostS X.K xr B Wx kp m F H3 σ' (forGo (fun w env h => kpt qq h (match bindT t u w env with
      | some env => rb env h
      | none => .bad)) (ws.drop (i + 1)) env h) D := fun {env3 h3} hk3 p m' F' H3 σ' x3 S3 k3 =>
      ⟨ws.length - (i + 1), by omega, rfl, hlt, m', F', env3, h3, x.trans x3, kk.trans (k2.trans k3), S3, hkp.trans hk3, p.shift x3 (k2.trans k3)⟩
    cases hr : rb env2 h with
    | bad => rw [hr] at p; exact (kpt_bad p).elim
    | ex c ds h3 => rw [hr, kpt_ex] at p; exact p.shift (.refl ..) k2
    | ok f h3 =>
      rw [hr] at p
      rcases kpt_cases (q := qq) (h := h) (h' := h3) (a := f) with ⟨ek, hk3⟩ | ek
      rotate_left
      · rw [ek] at p; exact p.elim
      rw [ek] at p
      cases f with
      | nx env3 => exact next hk3 p
      | ct env3 => exact next hk3 p
      | bk env3 => exact PostS.shift (r := .ok (.nx env3) h3) p (.refl ..) k2
      | rt w => exact PostS.shift (r := .ok (.rt w) h3) p (.refl ..) k2
  · have ei : i = ws.length := by omega
    subst ei
    rw [List.drop_length] at p
    exact .inl ⟨it2 (Nat.le_refl _), PostS.nx p S (.refl ..)⟩
omit hb hB in
theorem whl_read {X : Cx} {Wx : WX} {kp : List Nat} {rc : Vars → Hq → R W} {rb : Vars → Hq → R Fl} {N : Nat} {D : Ends} {σ : L2.St} {H : Hp}
    (q : tS X.K xr B Wx kp (fun env h => whlGo rc rb N env h) D σ H) : tWhile (tT X.K xr B Wx rc) (tS X.K xr B Wx kp rb) D σ H := by
  obtain ⟨m0, F0, env0, h0, S0, p0⟩ := q
  refine ⟨fun j σc H => ∃ m F env h, SR X.K B m F env h σc H ∧ PostS X.K xr B Wx kp m F H σc (whlGo rc rb j env h) D, ⟨N, m0, F0, env0, h0, S0, p0⟩, ?_⟩
  rintro j σc H ⟨m, F, env, h, S, p⟩
  cases j with
  | zero => exact p.elim
  | succ j =>
    simp only [whlGo] at p
    refine ⟨m, F, env, h, S, (p.bindE (env := env)).mono fun w h1 m1 F1 H1 x1 S1 p1 => ?_⟩
    clear p
    split at p1
    · exact ⟨false, rfl, iteF (PostS.nx p1 S1 (.refl ..))⟩
    · refine ⟨true, rfl, iteT ⟨fun σ' H' => ∃ m' , m' < j + 1 ∧ ∃ m F env h, SR X.K B m F env h σ' H' ∧ PostS X.K xr B Wx kp m F H' σ' (whlGo rc rb m' env h) D, fun σ' H' n => n, m1, F1, env, h1, S1, ?_⟩⟩
      have next : ∀ {env3 : Vars} {h3 : Hq}, PostS X.K xr B Wx kp m1 F1 H1 σc (whlGo rc rb j env3 h3) D → ∀ m' F' H3 σ', Ext m1 F1 H1 m' F' H3 → SR X.K B m' F' env3 h3 σ' H3 → Kp kp σc σ' → ∃ m', m' < j + 1 ∧ ∃ m F env h, SR X.K B m F env h σ' H3 ∧ PostS X.K xr B Wx kp m F H3 σ' (whlGo rc rb m' env h) D :=
        fun {env3 h3} p m' F' H3 σ' x3 S3 k3 => ⟨j, by omega, m', F', env3, h3, S3, p.shift x3 k3⟩
      cases hr : rb env h1 with
      | bad => rw [hr] at p1; exact p1.elim
      | ex c ds h3 => rw [hr] at p1; exact p1
      | ok f h3 =>
        rw [hr] at p1
        cases f with
        | nx env3 => exact next p1
        | ct env3 => exact next p1
        | bk env3 => exact p1
        | rt w => exact p1
    · exact p1.elim
omit hb hB in
theorem frz_read {X : Cx} {Wx : WX} {kp : List Nat} {i : Nat} {ss : Ss} {D : Ends} {σ : L2.St} {H : Hp} (q : tS X.K xr B Wx kp (evSs b (callN T n) (.cons (.frz i) ss)) D σ H) : tS X.K xr B Wx kp (evSs b (callN T n) ss) D σ H := by
  obtain ⟨m, F, env, h, S, p⟩ := q
  simp only [evSs, evS] at p
  unfold evFrz at p
  split at p
  · rename_i nn ei
    split at p
    · rename_i xs eo
      obtain ⟨v, ev, rv⟩ := S.var i _ ei
      obtain ⟨a, em, rfl⟩ := rv
      obtain ⟨fa, vs, eH, dd⟩ := S.hr.ob nn _ a eo em
      obtain ⟨r', e'⟩ := S.hr.frz em fa eH
      have p : PostS X.K xr B Wx kp m F H σ (evSs b (callN T n) ss (env.set i (some (.d (.list xs)))) (h.set nn .dead)) D := p
      refine ⟨m, _, _, _, ⟨r', by simpa using S.el, fun j w ej => ?_⟩, p.shift e' (.refl ..)⟩
      by_cases hj : j = i
      · subst hj
        have hl : j < env.length := (List.getElem?_eq_some_iff.mp ei).1
        rw [List.getElem?_set_self hl] at ej
        cases ej
        exact ⟨_, ev, .lst sq_new (dps_mono e'.sub _ _ dd)⟩
      · rw [List.getElem?_set_ne (Ne.symm hj)] at ej
        obtain ⟨v, h1, h2⟩ := S.var j w ej
        exact ⟨v, h1, wr_mono (.refl _) e'.sub h2⟩
    · exact p.elim
  · exact p.elim

mutual
theorem sndS : ∀ s : S, SndS M xr T n b B s
  | .bad => by
    intro X Wx sc kp p k h
    refine ⟨fun pins s σ H D I q => ?_⟩
    obtain ⟨m, F, env, hq, S, q⟩ := q
    simp only [evS] at q
    exact q.elim
  | .asg t u e => snd_asg hb hB
  | .set o i e => snd_set hb hB
  | .app o e => snd_app hb hB
  | .expr e => by
    intro X Wx sc kp p k h
    cases p <;> try (simp only [matS, Bool.false_eq_true] at h; done)
    rename_i p pos
    simp only [matS, Bool.and_eq_true] at h
    have hs : swapsWith p none pos.line X.env = pure false := by
      cases p <;> first | rfl | (simp [notLC] at h)
    refine (ps_expr (sndE hb hB e X Wx sc p k.toXOk h.2).pe hs).weak fun D σ H q => ?_
    simp only [tS, evS] at q
    exact bindS (ra := evE b (callN T n) e) q fun m F env hq H w v S r q => PostS.nx q S (.refl ..)
  | .ret e => by
    intro X Wx sc kp p k h
    cases p <;> try (simp only [matS, Bool.false_eq_true] at h; done)
    rename_i v pos
    cases v <;> simp only [matS, Bool.false_eq_true] at h
    refine (ps_ret (sndE hb hB e X Wx sc _ k.toXOk h).pe).weak fun D σ H q => ?_
    simp only [tS, evS] at q
    exact bindS (ra := evE b (callN T n) e) q fun m F env hq H w v S r q => q m F H v (.refl ..) S.hr r
  | .retN => by
    intro X Wx sc kp p k h
    cases p <;> try (simp only [matS, Bool.false_eq_true] at h; done)
    rename_i v pos
    cases v <;> simp only [matS, Bool.false_eq_true] at h
    refine ps_retN.weak fun D σ H q => ?_
    obtain ⟨m, F, env, hq, S, q⟩ := q
    exact q m F H _ (.refl ..) S.hr .non
  | .ifs c x y => by
    intro X Wx sc kp p k h
    cases p <;> simp only [matS, Bool.false_eq_true, Bool.and_eq_true] at h
    refine (ps_if ((sndE hb hB c X Wx sc _ k.toXOk h.1.1.2).pt h.1.1.1) (sndSs x X Wx sc kp _ k h.1.2) (sndSs y X Wx sc kp _ k h.2)).weak fun D σ H q => ?_
    simp only [tS, evS] at q
    exact if_read q
  | .forS t u it s => by
    intro X Wx sc kp p k h
    cases p <;> try (simp only [matS, Bool.false_eq_true] at h; done)
    rename_i tg pi ps os pos
    cases os <;> try (simp [matS] at h; done)
    simp only [matS, Bool.and_eq_true] at h
    obtain ⟨⟨⟨⟨h1, h2⟩, h3⟩, h4⟩, h5⟩ := h
    refine (ps_for k.po k.calm (sndIt hb hB it X Wx sc tg pi k.toXOk h4) (pg_T k.calm k.hN k.nd (fun x hx => sto_all k hx) h1) (sndSs s X Wx sc kp ps k h5) (noset h3)).weak fun D σ H q => ?_
    simp only [tS, evS] at q
    exact for_read h2 q
  | .whl N c s => by
    intro X Wx sc kp p k h
    cases p <;> try (simp only [matS, Bool.false_eq_true] at h; done)
    rename_i pc ps os pos
    cases os <;> try (simp [matS] at h; done)
    simp only [matS, Bool.and_eq_true] at h
    refine (ps_while k.po ((sndE hb hB c X Wx sc _ k.toXOk h.1.2).pt h.1.1) (sndSs s X Wx sc kp ps k h.2)).weak fun D σ H q => ?_
    simp only [tS, evS] at q
    exact whl_read q
  | .pass => by
    intro X Wx sc kp p k h
    cases p <;> try (simp only [matS, Bool.false_eq_true] at h; done)
    refine ps_pass.weak fun D σ H q => ?_
    obtain ⟨m, F, env, hq, S, q⟩ := q
    exact PostS.nx q S (.refl ..)
  | .brk => by
    intro X Wx sc kp p k h
    cases p <;> try (simp only [matS, Bool.false_eq_true] at h; done)
    refine ps_break.weak fun D σ H q => ?_
    obtain ⟨m, F, env, hq, S, q⟩ := q
    exact q m F H σ (.refl ..) S (.refl ..)
  | .cnt => by
    intro X Wx sc kp p k h
    cases p <;> try (simp only [matS, Bool.false_eq_true] at h; done)
    refine ps_continue.weak fun D σ H q => ?_
    obtain ⟨m, F, env, hq, S, q⟩ := q
    exact q m F H σ (.refl ..) S (.refl ..)
  | .rais c es => by
    intro X Wx sc kp p k h
    cases p <;> simp only [matS, Bool.false_eq_true] at h
  | .frz i => by
    intro X Wx sc kp p k h
    cases p <;> simp only [matS, Bool.false_eq_true] at h
theorem sndSs : ∀ ss : Ss, SndSs M xr T n b B ss
  | .nil => by
    intro X Wx sc kp ps k h
    cases ps <;> simp only [matSs, Bool.false_eq_true] at h
    refine pss_nil.weak fun D σ H q => ?_
    obtain ⟨m, F, env, hq, S, q⟩ := q
    exact PostS.nx q S (.refl ..)
  | .cons s ss => by
    intro X Wx sc kp ps k h
    by_cases hf : ∃ i, s = .frz i
    · obtain ⟨i, rfl⟩ := hf
      simp only [matSs] at h
      exact (sndSs ss X Wx sc kp ps k h).weak fun D σ H q => frz_read q
    · cases ps with
      | nil => cases s <;> first | (simp [matSs] at h; done) | exact absurd ⟨_, rfl⟩ hf
      | cons p ps =>
        have h' : matS M kp sc s p = true ∧ matSs M kp sc ss ps = true := by
          cases s <;> first | (simpa [matSs] using h) | exact absurd ⟨_, rfl⟩ hf
        refine (pss_cons (sndS s X Wx sc kp p k h'.1) (sndSs ss X Wx sc kp ps k h'.2)).weak fun D σ H q => ?_
        obtain ⟨m, F, env, hq, S, q⟩ := q
        simp only [evSs] at q
        refine ⟨m, F, env, hq, S, ?_⟩
        cases e : evS b (callN T n) s env hq with
        | bad => rw [e] at q; exact q.elim
        | ex c ds h1 => rw [e] at q; exact q
        | ok f h1 =>
          rw [e] at q
          cases f with
          | nx env1 => exact fun m1 F1 H1 σ1 x1 S1 k1 => ⟨m1, F1, env1, h1, S1, PostS.shift (r := evSs b (callN T n) ss env1 h1) q x1 k1⟩
          | rt w => exact q
          | bk env1 => exact q
          | ct env1 => exact q
end
end
end Ev

namespace Ev
open PySem PySem.Spec L2
/-- a def's body keeps its promise -/
theorem bodyG {P : Program} {w : World} {K : PySem.W.Frag} {mg : Str → Option Value} {base : Heap} {x qual : Str} {params : Arguments} {body : List Stmt} {scope : Scope} {dvs : List V} {kws : List (Str × V)} {f : Addr} {fd : FuncData} {CX : CXT} {N ps : List Str} {k : Nat} {sp : Sp}
    (D : FunD K x qual params body scope dvs kws f fd) (S : FnScope N ps scope) (lenG : ∀ ys G Z D, sp ys G Z D → ys.length = ps.length)
    (walk : ∀ (cdv : Value) (A : Around) (fr : List Env) (s : Shared) (G : Hp) (ys : List V) (Z : VK) (D : XK), A.guards = some [] → Room k (A.deeper (PyProof.Rows.envOfC qual scope s.heap.objs.size f cdv)) → sp ys G Z D →
      ∃ t, PSs (cxOf CX P w K mg base N qual scope f cdv A fr s G D) body t ∧ t { nx := fun _ H' => Z .non H', rt := Z } (L2.start N ys) G) : FnG P w K mg base CX (k + 1) f fd ps sp := by
  obtain ⟨oc, od, dV, kV, doc, pm, an, cdv, ct, osl, rfl, look, code, _, _⟩ := D.ex
  refine ⟨lenG, fun A gd fr s G args zs ys Z D room e bt rel q => ?_⟩
  have many := lenG _ _ _ _ q
  have keeps : ∀ b o, base.get? b = some o → s.heap.get? b = some o := fun b o z => (e.bs b o z).1
  have inK : K.In s.heap := e.mod.kin.keeps keeps
  have free : s.heap.NoLimit := e.mod.nolimit.keeps keeps
  have kinds : ∀ y ∈ ps.zip zs, scope.names.lookup y.1 = some .local ∨ (scope.names.lookup y.1 = some .cell ∧ ((cellsFrom (s.heap.objs.size + 1) scope.names []).lookup y.1).isSome = true) := by
    intro y hy
    cases S.par y.1 (List.of_mem_zip (a := y.1) (b := y.2) hy).1 with
    | inl z => exact .inl z
    | inr z => exact .inr ⟨z, PySem.W.cellsFrom_some _ _ _ (.inl z)⟩
  refine codeAny_call_function room.depth (inK _ _ look) rfl S.co S.gen rfl (PySem.W.codeRec_of inK code) (bt _ _ _ _ (wpAny_newFunctionEnv_cells S.kind kinds fun env he s1 nw => ?_))
  subst he
  refine ⟨free.keeps nw.toInCall.keep, codeAny_func ?_⟩
  obtain ⟨t, run, at0⟩ := walk cdv A fr s G ys Z D gd (room.deeper _) q
  have J := inv_start (CX := CX) (E := D) (cd := cdv) S room.hd e many rel nw
  refine wpAny_mono (run.run [] s1 (L2.start N ys) G _ J at0) (fun res s2 o => ?_) fun ex s2 o => o
  have done : ∀ {σ2 : St} {G2 : Hp} {y : V} {u : Value}, Inv (cxOf CX P w K mg base N qual scope f cdv A fr s G D) [] σ2 G2 s2 → RelV y u → Z y G2 → CE fr P w G s Z u s2 :=
    fun {σ2 G2 y u} J2 ry z => ⟨y, G2, J2.os, J2.bare, J2.base, J2.hok, ry, z⟩
  cases res with
  | ret u =>
    obtain ⟨y, σ2, G2, J2, ry, z⟩ := o
    exact done J2 ry z
  | next =>
    obtain ⟨σ2, G2, J2, z⟩ := o
    exact done (y := V.non) (u := Value.none) J2 rfl z
  | brk => exact (let ⟨_, _, _, z⟩ := o; (z : False).elim)
  | cont => exact (let ⟨_, _, _, z⟩ := o; (z : False).elim)
end Ev

/-! EvN: every def keeps its promise (fnAll). -/
namespace Ev
open PySem PySem.Spec L2
variable [Wd]

/-- what must be known of the defs: the table T stands for the program's defs -/
def DefOk (K : PySem.W.Frag) (mg : Str → Option Value) (T : List FD) (fn : List Str) (gi : List (Str × Int)) (f : Nat) (x : Str) : Prop :=
  ∃ (fd : FD) (nm qual : Str) (params : Arguments) (body : List Stmt) (scope : Scope) (a : Addr) (fdt : FuncData) (ps N : List Str), T[f]? = some fd ∧ FunD K nm qual params body scope [] [] a fdt ∧ FnScope N ps scope ∧ ps.length = fd.np ∧ N.length = fd.ns ∧
    matSs ⟨N, fn, gi⟩ [] scope fd.body body = true ∧ mg x = some (.ref a) ∧ Binds K fdt ps []

theorem HR.grow {K : PySem.W.Frag} {B : List Nat} {m : List Addr} {F H : Hp} {h : Hq} (r : HR K B m F h H) : HR K (h.length :: B) m F h H := by
  refine ⟨r.len, r.nd, r.ob, r.sub, r.there, fun c hc => ?_⟩
  rcases List.mem_cons.mp hc with e | hc
  · subst e
    refine ⟨Nat.le_refl _, fun n o k hn e hk => ?_⟩
    obtain ⟨a, ea, q⟩ := r.at e
    cases o with
    | lst xs => simp [refs] at hk
    | dct xs => simp [refs] at hk
    | dki xs => simp [refs] at hk
    | dead => simp [refs] at hk
    | lsw ws =>
      obtain ⟨f, vs, eH, d⟩ := q
      clear e eH
      induction d with
      | nil => simp [refs] at hk
      | cons d1 d2 ih =>
        rename_i w ws'
        simp only [refs, List.flatMap_cons, List.mem_append] at hk
        rcases hk with hk | hk
        · cases w with
          | d x => simp [refsW] at hk
          | l j =>
            simp only [refsW, List.mem_singleton] at hk
            subst hk
            obtain ⟨b, eb, rfl⟩ := d1
            rw [← r.len]
            exact (List.getElem?_eq_some_iff.mp eb).1
        · exact ih hk
  · exact r.clo c hc

section
variable {P : Program} {w : World} {K : PySem.W.Frag} {mg : Str → Option Value} {base : Heap} {xr : XRel} {T : List FD} {fn : List Str} {gi : List (Str × Int)}

theorem sr_start {B : List Nat} {m : List Addr} {F H : Hp} {h : Hq} {N : List Str} {vs : List V} {ws : List W} {k : Nat} (r : HR K B m F h H) (q : WRs K m F vs ws) (hk : ws.length + k = N.length) :
    SR K B m F (ws.map some ++ List.replicate k none) h (L2.start N vs) H := by
  have hl := q.length
  refine ⟨r, ?_, fun i w e => ?_⟩
  · unfold L2.start
    simp only [List.length_append, List.length_map, List.length_replicate]
    omega
  · by_cases hi : i < ws.length
    · rw [List.getElem?_append_left (by simpa using hi), List.getElem?_map] at e
      cases e2 : ws[i]? with
      | none => rw [e2] at e; cases e
      | some w' =>
        rw [e2] at e
        cases e
        obtain ⟨v, hv, rv⟩ := q.get e2
        refine ⟨v, ?_, rv⟩
        unfold L2.start
        rw [List.getElem?_append_left (by simpa using by omega), List.getElem?_map, hv]
        rfl
    · rw [List.getElem?_append_right (by simpa using hi), List.getElem?_replicate] at e
      split at e <;> cases e

/-- what is cut off was made since -/
theorem Ext.cut {m m' : List Addr} {F F' H H' : Hp} (x : Ext m F H m' F' H') : Ext m F H m F' H' :=
  ⟨.refl _, x.sub, x.frm, fun a h g => absurd h g, x.frf⟩

theorem spF_len {n f : Nat} {fd : FD} (e : T[f]? = some fd) {vs : List V} {H : Hp} {Q : VK} {E : XK} (s : spF K xr T n f vs H Q E) : vs.length = fd.np := by
  obtain ⟨fd', e', l, _⟩ := s
  rw [e] at e'
  cases e'
  exact l

theorem spF_zero {f : Nat} {vs : List V} {H : Hp} {Q : VK} {E : XK} (s : spF K xr T 0 f vs H Q E) : False := by
  obtain ⟨fd, e, l, B, b, m, F, ws, h, hb, hB, r, q, s⟩ := s
  exact s

/-- a def keeps its promise, if those that it calls do -/
theorem fnStep {n f : Nat} (hw : w = Wd.w) (hbl : ∀ x ∈ bnames, mg x = none) (hgi : ∀ x i, (x, i) ∈ gi → ∃ t, mg x = some (.int i t)) (ih : ∀ (f : Nat) (x : Str), fn[f]? = some x → ∃ a fd ps, mg x = some (.ref a) ∧ PySem.W.keepIn K (.ref a) = true ∧ Binds K fd ps [] ∧ FnG P w K mg base (L2.CX P w) n a fd ps (spF K xr T n f))
    {fd : FD} {nm qual : Str} {params : Arguments} {body : List Stmt} {scope : Scope} {a : Addr} {fdt : FuncData} {ps N : List Str} (eT : T[f]? = some fd) (FD' : FunD K nm qual params body scope [] [] a fdt) (FS : FnScope N ps scope) (l1 : ps.length = fd.np) (l2 : N.length = fd.ns)
    (hm : matSs ⟨N, fn, gi⟩ [] scope fd.body body = true) : FnG P w K mg base (L2.CX P w) (n + 1) a fdt ps (spF K xr T (n + 1) f) := by
    refine bodyG FD' FS (fun vs H Q E s => by rw [spF_len eT s, l1]) fun cdv A outer s H vs Q E gd hr sp => ?_
    obtain ⟨fd2, eT2, hl, B, b, m, F, ws, h, hb, hB, r, q, sp⟩ := sp
    rw [eT] at eT2
    cases eT2
    have hlw : ws.length = fd.np := by rw [← q.length]; exact hl
    have hpl : fd.np ≤ N.length := by
      have := congrArg List.length FS.pre
      rw [List.length_take] at this
      omega
    have ev : callN T (n + 1) b f ws h = runF (callN T n) fd b ws h := by simp only [callN, eT]
    rw [ev] at sp
    have k : XOk2 (cxOf (L2.CX P w) P w K mg base N qual scope a cdv A outer s H E) (fun cls d _ H => E cls d H) ⟨N, fn, gi⟩ xr T n scope := by
      refine ⟨⟨rfl, FS.nd, rfl, rfl, takes_of rfl rfl rfl rfl, ?_, hw, gd, hr, hbl, hgi, fun f x e => ih f x e⟩, passes_of rfl, fun _ => rfl, FS.kind⟩
      have := hr.un
      show (A.deeper _).units + 200 < cLine
      omega
    unfold runF at sp
    rw [if_pos hlw] at sp
    cases htr : fd.tr with
    | false =>
      rw [htr] at sp
      simp only [Bool.false_eq_true, if_false] at sp
      refine ⟨_, sndSs hb hB fd.body _ _ scope [] body k hm, m, F, ws.map some ++ List.replicate (fd.ns - fd.np) none, h, sr_start r q (by omega), ?_⟩
      cases e2 : evSs b (callN T n) fd.body (ws.map some ++ List.replicate (fd.ns - fd.np) none) h with
      | bad => rw [e2] at sp; exact sp.elim
      | ex c ds h' => rw [e2] at sp; exact fun m' F' H' cls dx σ' x r' y _ => sp m' F' H' cls dx x r' y
      | ok fl h' =>
        rw [e2] at sp
        cases fl with
        | nx env => exact fun m' F' H' σ' x r' _ => sp .non m' F' H' x r'.hr .non
        | rt wv => exact fun m' F' H' v x r' rv => sp v m' F' H' x r' rv
        | bk env => exact sp.elim
        | ct env => exact sp.elim
    | true =>
      rw [htr] at sp
      simp only [if_true] at sp
      have hB2 : ∀ c ∈ h.length :: B, c ≤ h.length := fun c hc => by
        rcases List.mem_cons.mp hc with e | hc
        · omega
        · exact (r.clo c hc).1
      have cutHR : ∀ {m' F' H' h'}, Ext m F H m' F' H' → HR K (h.length :: B) m' F' h' H' → HR K B m F' (h'.take h.length) H' := fun x r' => r'.cut x.ml r.len.symm fun d hd => (r.clo d hd).1
      refine ⟨_, sndSs (b := h.length) (B := h.length :: B) List.mem_cons_self hB2 fd.body _ _ scope [] body k hm, m, F, ws.map some ++ List.replicate (fd.ns - fd.np) none, h, sr_start r.grow q (by omega), ?_⟩
      cases e2 : evSs h.length (callN T n) fd.body (ws.map some ++ List.replicate (fd.ns - fd.np) none) h with
      | bad => rw [e2] at sp; exact sp.elim
      | ex c ds h' => rw [e2] at sp; exact fun m' F' H' cls dx σ' x r' y _ => sp m F' H' cls dx x.cut (cutHR x r') y
      | ok fl h' =>
        rw [e2] at sp
        cases fl with
        | nx env => exact fun m' F' H' σ' x r' _ => sp .non m F' H' x.cut (cutHR x r'.hr) .non
        | rt wv =>
          cases wv with
          | d d => exact fun m' F' H' v x r' rv => sp v m F' H' x.cut (cutHR x r') rv
          | l j => exact sp.elim
        | bk env => exact sp.elim
        | ct env => exact sp.elim
/-- every def keeps its promise -/
theorem fnAll (hw : w = Wd.w) (hbl : ∀ x ∈ bnames, mg x = none) (hgi : ∀ x i, (x, i) ∈ gi → ∃ t, mg x = some (.int i t)) (hk : ∀ (f : Nat) (x : Str), fn[f]? = some x → DefOk K mg T fn gi f x) (hkp : ∀ (f : Nat) (x : Str) (a : Addr), fn[f]? = some x → mg x = some (.ref a) → PySem.W.keepIn K (.ref a) = true) : ∀ (n f : Nat) (x : Str), fn[f]? = some x →
    ∃ a fd ps, mg x = some (.ref a) ∧ PySem.W.keepIn K (.ref a) = true ∧ Binds K fd ps [] ∧ FnG P w K mg base (L2.CX P w) n a fd ps (spF K xr T n f)
  | 0, f, x, e => by
    obtain ⟨fd, nm, qual, params, body, scope, a, fdt, ps, N, eT, FD', FS, l1, l2, hm, hg, hbd⟩ := hk f x e
    exact ⟨a, fdt, ps, hg, hkp f x a e hg, hbd, ⟨fun vs H Q E s => (spF_zero s).elim, fun A gd outer s H args us vs Q E hr he hb hv hs => (spF_zero hs).elim⟩⟩
  | n + 1, f, x, e => by
    obtain ⟨fd, nm, qual, params, body, scope, a, fdt, ps, N, eT, FD', FS, l1, l2, hm, hg, hbd⟩ := hk f x e
    exact ⟨a, fdt, ps, hg, hkp f x a e hg, hbd, fnStep hw hbl hgi (fnAll hw hbl hgi hk hkp n) eT FD' FS l1 l2 hm⟩
end
end Ev

/-! EvNe: a law's end, for a promise that is asked where no repr is under way. -/
namespace Ev
open PySem PySem.Spec PyProof.Rows L2
theorem law_callG {P : Program} {w : World} {K : PySem.W.Frag} {mg mb : Str → Option Value} {CX : CXT} {k : Nat} {fa z : Addr} {fd : FuncData} {x : Str} {sp : Sp} {s0 : Shared} {us : List Value} {ks : List Int}
    (inK : K.In s0.heap) (ng : s0.heap.Ns mainGlobals mg) (nb : s0.heap.Ns builtinsNs mb) (boot : ∀ y : Str, y ≠ "__name__" → mb y = bootBuiltins y) (free : s0.heap.NoLimit) (gens : s0.gens = #[])
    (there : s0.heap.get? z = some { cls := .type "list", data := .seq us.toArray }) (hints : IntsAre us ks) (small : ks.length ≤ sizeLine) (room : Room k callerA)
    (F : ∀ base : Heap, K.In base → base.Ns mainGlobals mg → FnG P w K mg base CX k fa fd [x] sp) (bind : ∀ (s : Shared) (v : Value), BindsTo s fd ⟨[v], []⟩ [(x, v)])
    (start : ∀ G : Hp, Only G → SqL K G z (ks.map V.int) → sp [.ref z] G (fun v _ => v = .bl true) fun _ _ _ => False)
    (quiet : ∀ G e s', CX [] G s0 (fun _ _ _ => False) e s' → False) :
    codeAny (model P w) callerA (.call (.ref fa) ⟨[.ref z], []⟩) (fun r s' => r = .ok (.ret (.bool true)) ∧ OldK s0.heap s'.heap ∧ s'.os = s0.os ∧ AllBare s'.gens) s0 := by
  have vals := vals_ints hints
  have many := hints.length
  have core : ∀ G : Hp, Only G → SqL K G z (ks.map V.int) → HOk P w G s0.heap → (∀ b, G b ≠ none → b = z) → (G z ≠ none → K.lookup z = none) →
      codeAny (model P w) callerA (.call (.ref fa) ⟨[.ref z], []⟩) (fun r s' => r = .ok (.ret (.bool true)) ∧ OldK s0.heap s'.heap ∧ s'.os = s0.os ∧ AllBare s'.gens) s0 := by
    intro G only sq ok alone notK
    have keepB : ∀ {b : Addr} {o : Obj}, s0.heap.get? b = some o → G b = none → (hidT s0.heap G).get? b = some o := fun p q => hidT_get p q
    have isZ : ∀ {b : Addr} {u : HO}, G b = some u → b = z := fun {b u} q => alone b (by rw [q]; simp)
    have noD : ∀ {b : Addr} {o : Obj} {es : Array DictEntry} {ep : Nat}, s0.heap.get? b = some o → o.data = .dict es ep → G b = none := by
      intro b o es ep p d
      cases q : G b with
      | none => rfl
      | some u =>
        cases isZ q
        rw [there] at p
        cases p
        exact absurd (show Data.seq us.toArray _ = Data.dict es ep from d) (fun t => nomatch t)
    have spaces : ∀ {b : Addr} {m : Str → Option Value}, s0.heap.Ns b m → (hidT s0.heap G).Ns b m := fun {b m} ⟨o, es, ep, p, d, r⟩ => ⟨o, es, ep, keepB p (noD p d), d, r⟩
    have inB : K.In (hidT s0.heap G) := fun b o p => keepB (inK b o p) (by
      cases q : G b with
      | none => rfl
      | some u =>
        cases isZ q
        rw [notK (by rw [q]; simp)] at p
        cases p)
    have mod : Mod K mg (hidT s0.heap G) := ⟨inB, spaces ng, ⟨mb, spaces nb, boot⟩, let ⟨mc, p, q⟩ := free; ⟨mc, spaces p, q⟩⟩
    have e0 : Env0 P w K mg (hidT s0.heap G) callerA [] s0 G := ⟨rfl, mod, fun b o p => of_hidT p, Nat.le_of_eq (hidT_size _ _), trivial, fun b q => absurd (show b ∈ ([] : List Addr) from q) (by simp), ok, .of_eq gens⟩
    refine codeAny_mono ((F _ inB (spaces ng)).runG callerA rfl [] s0 G ⟨[.ref z], []⟩ [.ref z] [.ref z] _ _ room e0 (bind s0 (.ref z)) (.cons rfl .nil) (start G only sq)) fun res s' o => ?_
    cases res with
    | error e => exact (quiet G e s' o).elim
    | ok fl =>
      cases fl with
      | next => exact (show False from o).elim
      | brk => exact (show False from o).elim
      | cont => exact (show False from o).elim
      | ret u =>
        obtain ⟨v, G', os, bare, un, ok', rv, q⟩ := o
        cases (show v = .bl true from q)
        cases (show u = Value.bool true from rv)
        refine ⟨rfl, OldK.of_keep fun b o p => ?_, os, bare⟩
        cases q : G b with
        | none => exact un.keep b o p q (by intro t; exact absurd (show b ∈ ([] : List Addr) from t) (by simp)) (by simp)
        | some u =>
          rcases only b with t | ⟨ob, xs, t⟩
          · rw [q] at t; cases t
          · have t2 := un.frzs b ob _ t
            obtain ⟨p1, _⟩ := ok b _ t
            obtain ⟨p2, _⟩ := ok' b _ t2
            rw [p] at p1
            cases p1
            exact p2
  cases mine : K.lookup z with
  | some o =>
    have p := inK z o mine
    rw [there] at p
    cases p
    exact core (fun _ => none) (fun _ => .inl rfl) (.inr ⟨_, us.toArray, _, mine, rfl, rfl, rfl, by rw [List.size_toArray, many]; exact small, by simpa using vals⟩) (fun b u t => (by have t' : (none : Option HO) = some u := t; cases t')) (fun b t => absurd rfl t) fun t => absurd rfl t
  | none =>
    refine core (fun b => if b = z then some (.frz { cls := .type "list", data := .seq us.toArray } (.lst (ks.map V.int))) else none) (fun b => ?_) (.inl (.inr ⟨{ cls := .type "list", data := .seq us.toArray }, if_pos rfl⟩)) (fun b u t => ?_) (fun b t => ?_) fun _ => mine
    · by_cases e : b = z
      · exact .inr ⟨_, _, if_pos e⟩
      · exact .inl (if_neg e)
    · by_cases e : b = z
      · have t' := (if_pos e).symm.trans t
        cases t'
        subst e
        exact ⟨there, by rw [List.length_map]; exact small, us, _, vals, there⟩
      · have t' := (if_neg e).symm.trans t
        cases t'
    · by_cases e : b = z
      · exact e
      · exact absurd (if_neg e) t
/-- a law's walk -/
theorem walkG {l : PySem.W.OpenLaw} {n k : Nat} {q : Program} {loose : List Str} {XP : (Str → Option Value) → Heap → Prop} {YP : World → Heap → Prop} {d : DefRec} {CX : CXT} {x : Str}
    (most : l.most = some n) (small : n ≤ sizeLine) (plain : d.params.defaults = []) (room : Room k callerA)
    (F : ∀ (w : World) (mg : Str → Option Value) (fa : Addr) (h : Heap), YP w h → h.Ns mainGlobals mg → mg d.name = some (.ref fa) →
      ∃ (K : PySem.W.Frag) (fd : FuncData) (sp : Sp), K.In h ∧ (∀ (s : Shared) (v : Value), BindsTo s fd ⟨[v], []⟩ [(x, v)]) ∧
        (∀ (G : Hp) (z : Addr) (ks : List Int), ks.length ≤ n → Only G → SqL K G z (ks.map V.int) → sp [.ref z] G (fun v _ => v = .bl true) fun _ _ _ => False) ∧
        ∀ base : Heap, K.In base → base.Ns mainGlobals mg → FnG l.prog w K mg base CX k fa fd [x] sp)
    (quiet : ∀ (G : Hp) (s : Shared) (e : Value) (s' : Shared), CX [] G s (fun _ _ _ => False) e s' → False) :
    PySem.W.WalkO q loose XP YP l.row.toRowW d [] (fun f vs => PySem.call f vs) := by
  refine Att.attach_call most plain fun w s0 s1 mg mb fa o pm cd doc z us ks G Y ho hd hcd nm obj hints len gens => ?_
  obtain ⟨K, fd, sp, inK, bd, st, prom⟩ := F w mg fa _ Y G.T.g nm
  exact law_callG inK G.T.g G.T.b G.T.builtins G.T.nolimit gens obj hints (Nat.le_trans len small) room prom bd (fun H a b => st H z ks len a b) fun H e s' => quiet H s1 e s'
end Ev

/-! EvO: from a table of terms to the law (law_of). -/
namespace Ev
open PySem PySem.Spec L2

/-- one def of the row's top: its statement, parameters, names, term -/
structure DF where
  nm : Str
  st : Stmt
  ps : List Str
  N : List Str
  fd : FD
def DF.dd (d : DF) : He.DefD := ⟨(d.nm, none), d.nm, d.nm, defArgs d.st, defBody d.st, defScope d.st, [], []⟩
def DF.chk (fn : List Str) (gi : List (Str × Int)) (d : DF) : Bool := decide ((defScope d.st).kind = .function) && (decide ((defScope d.st).isCoroutine = false) && (decide ((defScope d.st).isGenerator = false) && (decide d.N.Nodup && (decide (d.N.take d.ps.length = d.ps) &&
  ((d.ps.all fun x => decide ((defScope d.st).names.lookup x = some .local ∨ (defScope d.st).names.lookup x = some .cell)) && (((defScope d.st).names.all fun y => decide (y.2 ≠ .free)) && (decide (d.ps.length = d.fd.np) && (decide (d.N.length = d.fd.ns) &&
  matSs ⟨d.N, fn, gi⟩ [] (defScope d.st) d.fd.body (defBody d.st)))))))))
theorem DF.scope {fn : List Str} {gi : List (Str × Int)} {d : DF} (h : d.chk fn gi = true) : FnScope d.N d.ps (defScope d.st) ∧ d.ps.length = d.fd.np ∧ d.N.length = d.fd.ns ∧ matSs ⟨d.N, fn, gi⟩ [] (defScope d.st) d.fd.body (defBody d.st) = true := by
  unfold DF.chk at h
  simp only [Bool.and_eq_true, decide_eq_true_eq, List.all_eq_true] at h
  obtain ⟨h1, h2, h3, h4, h5, h6, h7, h8, h9, h10⟩ := h
  exact ⟨⟨h1, h2, h3, h4, h5, h6, h7⟩, h8, h9, h10⟩
def DF.Bnd (d : DF) : Prop := ∀ (kV doc pm : Value) (an : Option Addr) (cdv ct : Value) (us : List Value), us.length = d.ps.length → bindArgs (PySem.W.fnOf d.nm d.nm (defArgs d.st) (defBody d.st) (defScope d.st) .none kV doc pm an cdv ct) ⟨us, []⟩ = pure (d.ps.zip us)
def fas (ds : List DF) (gi : List (Str × Int)) : List He.Fa := ds.map (fun d => .glo d.nm) ++ (bnames.map .free ++ gi.map fun g => .int g.1 g.2)
def fns (ds : List DF) : List He.DefD := ds.map DF.dd

section
variable {P : Program} {w : World} {K : PySem.W.Frag} {mg : Str → Option Value} {h : Heap} {ds : List DF} {gi : List (Str × Int)}
theorem glo_at (X : K.In h) (G : h.Ns mainGlobals mg) (c : He.SaysD (fas ds gi) (fns ds) K) {i : Nat} {d : DF} (e : ds[i]? = some d) : mg d.nm = some (.ref (He.ga K d.nm)) := by
  refine He.glo_ok X G (c.fact i ?_)
  unfold fas
  rw [List.getElem?_append_left (by rw [List.length_map]; exact (List.getElem?_eq_some_iff.mp e).1), List.getElem?_map, e]
  rfl
theorem def_at (c : He.SaysD (fas ds gi) (fns ds) K) {i : Nat} {d : DF} (e : ds[i]? = some d) : ∃ fd, FunD K d.nm d.nm (defArgs d.st) (defBody d.st) (defScope d.st) [] [] (He.ga K d.nm) fd := by
  have e2 : (fns ds)[i]? = some d.dd := by unfold fns; rw [List.getElem?_map, e]; rfl
  exact c.def_ i e2
theorem free_at (X : K.In h) (G : h.Ns mainGlobals mg) (c : He.SaysD (fas ds gi) (fns ds) K) : ∀ x ∈ bnames, mg x = none := fun x hx => by
  obtain ⟨i, e⟩ := List.getElem?_of_mem hx
  refine He.free_ok X G (c.fact (ds.length + i) ?_)
  unfold fas
  have : ds.length + i - ds.length = i := by omega
  rw [List.getElem?_append_right (by rw [List.length_map]; omega), List.length_map, this, List.getElem?_append_left (by rw [List.length_map]; exact (List.getElem?_eq_some_iff.mp e).1), List.getElem?_map, e]
  rfl
theorem int_at (X : K.In h) (G : h.Ns mainGlobals mg) (c : He.SaysD (fas ds gi) (fns ds) K) : ∀ x i, (x, i) ∈ gi → ∃ t, mg x = some (.int i t) := fun x v hx => by
  obtain ⟨i, e⟩ := List.getElem?_of_mem hx
  refine He.int_ok X G (c.fact (ds.length + (bnames.length + i)) ?_)
  unfold fas
  have h1 : ds.length + (bnames.length + i) - ds.length = bnames.length + i := by omega
  have h2 : bnames.length + i - bnames.length = i := by omega
  rw [List.getElem?_append_right (by rw [List.length_map]; omega), List.length_map, h1, List.getElem?_append_right (by rw [List.length_map]; omega), List.length_map, h2, List.getElem?_map, e]
  rfl
theorem defs_ok (X : K.In h) (G : h.Ns mainGlobals mg) (c : He.SaysD (fas ds gi) (fns ds) K) (ck : ds.all (DF.chk (ds.map (·.nm)) gi) = true) (bd : ∀ d ∈ ds, d.Bnd) (f : Nat) (x : Str) (e : (ds.map (·.nm))[f]? = some x) : DefOk K mg (ds.map (·.fd)) (ds.map (·.nm)) gi f x := by
  rw [List.getElem?_map] at e
  cases e2 : ds[f]? with
  | none => rw [e2] at e; cases e
  | some d =>
    rw [e2] at e
    cases e
    obtain ⟨fdt, FD'⟩ := def_at c e2
    have hm := List.mem_of_getElem? e2
    obtain ⟨h1, h2, h3, h4⟩ := DF.scope (List.all_eq_true.mp ck d hm)
    exact ⟨d.fd, d.nm, d.nm, defArgs d.st, defBody d.st, defScope d.st, _, fdt, d.ps, d.N, by rw [List.getElem?_map, e2]; rfl, FD', h1, h2, h3, h4, glo_at X G c e2, FD'.bindsN (bd d hm)⟩
theorem defs_keep (X : K.In h) (G : h.Ns mainGlobals mg) (c : He.SaysD (fas ds gi) (fns ds) K) (f : Nat) (x : Str) (a : Addr) (e : (ds.map (·.nm))[f]? = some x) (em : mg x = some (.ref a)) : PySem.W.keepIn K (.ref a) = true := by
  rw [List.getElem?_map] at e
  cases e2 : ds[f]? with
  | none => rw [e2] at e; cases e
  | some d =>
    rw [e2] at e
    cases e
    obtain ⟨fdt, FD'⟩ := def_at c e2
    have := (glo_at X G c e2).symm.trans em
    cases this
    exact FD'.kp

def xr0 : XRel := fun _ _ _ _ _ _ => False
theorem dps_ints {F : Hp} : ∀ ns : List Int, DpAll K F (ns.map V.int) (ns.map PyData.int)
  | [] => .nil
  | n :: ns => .cons (.int n) (dps_ints ns)
theorem start_sp [Wd] {n i : Nat} {T : List FD} {fd : FD} (eT : T[i]? = some fd) (hn : fd.np = 1) {H : Hp} {a : Addr} {ns : List Int} (s : SqL K H a (ns.map V.int)) {hz : Hq} (pl : callN T n 0 i [.d (.list (ns.map .int))] [] = .ok (.d (.bool true)) hz) :
    spF K xr0 T n i [.ref a] H (fun v _ => v = .bl true) fun _ _ _ => False := by
  refine ⟨fd, eT, by rw [hn]; rfl, [0], 0, [], H, [.d (.list (ns.map .int))], [], by simp, by simp, ⟨rfl, by simp, fun n o a e => by simp at e, .refl _, by simp, ?_⟩, .cons (.lst s (dps_ints ns)) .nil, ?_⟩
  · intro c hc
    simp only [List.mem_singleton] at hc
    subst hc
    exact ⟨by simp, fun n o k hn => by omega⟩
  · rw [pl]
    intro v m' F' H' x r rv
    have rv : Dp K F' v (.bool true) := rv
    cases rv
    rfl

/-- whatever the world: what a def lets out -/
def CXW (P : Program) : CXT := fun outer H s E u s' => ∃ w, L2.CX P w outer H s E u s'
theorem CXW.none {H : Hp} {s : Shared} {e : Value} {s' : Shared} (z : CXW P [] H s (fun _ _ _ => False) e s') : False := by
  obtain ⟨_, _, _, _, _, _, _, _, _, _, _, _, _, z⟩ := z
  exact z
theorem FnG.toW {base : Heap} {k : Nat} {f : Addr} {fd : FuncData} {ps : List Str} {sp : Sp} (F : FnG P w K mg base (L2.CX P w) k f fd ps sp) : FnG P w K mg base (CXW P) k f fd ps sp :=
  ⟨F.lenG, fun A gd outer s H args us vs Q E hr he hb hv hs => codeAny_mono (F.runG A gd outer s H args us vs Q E hr he hb hv hs) fun r s' q => by
    cases r with
    | error e => exact ⟨w, q⟩
    | ok fl => cases fl <;> exact q⟩
/-- the law's facts -/
theorem law_facts {n i : Nat} {d : DF} {f : Addr} (X : K.In h) (G : h.Ns mainGlobals mg) (c : He.SaysD (fas ds gi) (fns ds) K) (ck : ds.all (DF.chk (ds.map (·.nm)) gi) = true) (bd : ∀ d ∈ ds, d.Bnd) (e : ds[i]? = some d) (hps : d.ps = [("_law_script" : Str)]) (hfa : mg d.nm = some (.ref f))
    (pl : ∀ ns : List Int, ns.length ≤ 63 → ∃ hz, callN (ds.map (·.fd)) (n + 1) 0 i [.d (.list (ns.map .int))] [] = .ok (.d (.bool true)) hz) :
    ∃ (K : PySem.W.Frag) (fd : FuncData) (sp : Sp), K.In h ∧ (∀ (s : Shared) (u : Value), BindsTo s fd ⟨[u], []⟩ [("_law_script", u)]) ∧
        (∀ (H : Hp) (a : Addr) (ns : List Int), ns.length ≤ 63 → Only H → SqL K H a (ns.map V.int) → sp [.ref a] H (fun v _ => v = .bl true) fun _ _ _ => False) ∧
        ∀ base : Heap, K.In base → base.Ns mainGlobals mg → FnG P w K mg base (CXW P) (n + 1) f fd ["_law_script"] sp := by
  letI : Wd := ⟨w⟩
  obtain ⟨fdt, FD'⟩ := def_at c e
  have hm := List.mem_of_getElem? e
  obtain ⟨h1, h2, h3, h4⟩ := DF.scope (List.all_eq_true.mp ck d hm)
  have hg := glo_at X G c e
  rw [hfa] at hg
  have hfe : f = He.ga K d.nm := by cases hg; rfl
  subst hfe
  refine ⟨K, fdt, spF K xr0 (ds.map (·.fd)) (n + 1) i, X, fun s v => ?_, fun H a ns hl hO hS => ?_, fun base hb hn => ?_⟩
  · have b := FunD.bindsA (ps := d.ps) FD' (bd d hm) s [v] (by rw [hps]; rfl)
    rw [hps] at b
    exact b
  · obtain ⟨hz, pl⟩ := pl ns hl
    exact start_sp (by rw [List.getElem?_map, e]; rfl) (by rw [← h2, hps]; rfl) hS pl
  · rw [← hps]
    exact Ev.FnG.toW <| fnStep rfl (free_at X G c) (int_at X G c) (fnAll rfl (free_at X G c) (int_at X G c) (defs_ok X G c ck bd) (defs_keep X G c) n) (by rw [List.getElem?_map, e]; rfl) FD' h1 h2 h3 h4
end
end Ev

/-! EvP: lemmas to run the terms by simp. -/
namespace Ev
open PySem

/-- not by unfolding (the kernel would unfold in its own order) -/
theorem nr {α : Sort _} {a b : α} (h : a = b) : a = b := h ▸ rfl
section
variable (b : Nat) (C : CallF) (env : Vars) (h : Hq)
@[simp] theorem b_ok {α β : Type} (a : α) (h : Hq) (f : α → Hq → R β) : (R.ok a h).bind f = f a h := nr rfl
@[simp] theorem x_var (i : Nat) : evE b C (.var i) env h = (match env[i]? with
    | some (some w) => .ok w h
    | _ => .bad) := by (simp only [evE]) <;> rfl
@[simp] theorem x_glb (i : Int) : evE b C (.glb i) env h = .ok (.d (.int i)) h := by simp only [evE]
@[simp] theorem x_trg (t : Bool) (a : E) : evE b C (.trg t a) env h = (evE b C a env h).bind fun w h => match w with
    | .d (.int n) => if rgOk 0 n then .ok (.d ((if t then PyData.tuple else PyData.list) ((List.range n.toNat).map fun i => .int (i : Nat)))) h else .bad
    | _ => .bad := by (simp only [evE]) <;> rfl
@[simp] theorem x_isa (c : Ity) (a : E) : evE b C (.isa c a) env h = (evE b C a env h).bind fun w h => match toD h w with
    | some x => .ok (.d (.bool (isaD c x))) h
    | none => .bad := by (simp only [evE]) <;> rfl
@[simp] theorem x_dlg (kvs : List (Str × Int)) (k d : E) : evE b C (.dlg kvs k d) env h = (evE b C k env h).bind fun v h => (evE b C d env h).bind fun w h => match v with
    | .d (.str s) => .ok (match dlook kvs s with
      | some i => .d (.int i)
      | none => w) h
    | _ => .bad := by (simp only [evE]) <;> rfl
@[simp] theorem x_lit (c : PyData) : evE b C (.lit c) env h = .ok (.d c) h := by (simp only [evE]) <;> rfl
@[simp] theorem x_tup (es : Es) : evE b C (.tup es) env h = (evEs b C es env h).bind fun ws h => match allD ws with
    | some ds => .ok (.d (.tuple ds)) h
    | none => .bad := by (simp only [evE]) <;> rfl
@[simp] theorem x_lst (es : Es) : evE b C (.lst es) env h = (evEs b C es env h).bind fun ws h => match allD ws with
    | some ds => .ok (.d (.list ds)) h
    | none => .bad := by (simp only [evE]) <;> rfl
@[simp] theorem x_lstM (es : Es) : evE b C (.lstM es) env h = (evEs b C es env h).bind fun ws h => match allD ws with
    | some ds => .ok (.l h.length) (h ++ [.lst ds])
    | none => .bad := by (simp only [evE]) <;> rfl
@[simp] theorem x_bin (o : Operator) (x y : E) : evE b C (.bin o x y) env h = (evE b C x env h).bind fun v h => (evE b C y env h).bind fun w h => op2 (evBin o) v w h := by (simp only [evE]) <;> rfl
@[simp] theorem x_binM (o : Operator) (x y : E) : evE b C (.binM o x y) env h = (evE b C x env h).bind fun v h => (evE b C y env h).bind fun w h => opM (evBin o) v w h := by (simp only [evE]) <;> rfl
@[simp] theorem x_neg (x : E) : evE b C (.neg x) env h = (evE b C x env h).bind fun v h => match v with
    | .d (.int i) => .ok (.d (.int (-i))) h
    | _ => .bad := by (simp only [evE]) <;> rfl
@[simp] theorem x_nt (x : E) : evE b C (.nt x) env h = (evE b C x env h).bind fun v h => match v with
    | .d (.bool k) => .ok (.d (.bool (!k))) h
    | _ => .bad := by (simp only [evE]) <;> rfl
@[simp] theorem x_cmp (o : CmpOp) (x y : E) : evE b C (.cmp o x y) env h = (evE b C x env h).bind fun v h => (evE b C y env h).bind fun w h => cmpW o v w h := by (simp only [evE]) <;> rfl
@[simp] theorem x_one (x : E) : evE b C (.one x) env h = evE b C x env h := by (simp only [evE]) <;> rfl
@[simp] theorem x_and (x y : E) : evE b C (.and x y) env h = (evE b C x env h).bind fun v h => match v with
    | .d (.bool true) => evE b C y env h
    | .d (.bool false) => .ok (.d (.bool false)) h
    | _ => .bad := by (simp only [evE]) <;> rfl
@[simp] theorem x_or (x y : E) : evE b C (.or x y) env h = (evE b C x env h).bind fun v h => match v with
    | .d (.bool true) => .ok (.d (.bool true)) h
    | .d (.bool false) => evE b C y env h
    | _ => .bad := by (simp only [evE]) <;> rfl
@[simp] theorem x_ife (c x y : E) : evE b C (.ife c x y) env h = (evE b C c env h).bind fun v h => match v with
    | .d (.bool true) => evE b C x env h
    | .d (.bool false) => evE b C y env h
    | _ => .bad := by (simp only [evE]) <;> rfl
@[simp] theorem x_idx (x i : E) : evE b C (.idx x i) env h = (evE b C x env h).bind fun v h => (evE b C i env h).bind fun w h => evIdx h v w := by (simp only [evE]) <;> rfl
@[simp] theorem x_slc (x : E) (lo hi : Oe) : evE b C (.slc x lo hi) env h = (evE b C x env h).bind fun v h => (evOe b C lo env h).bind fun l h => match intO l with
    | some l => (evOe b C hi env h).bind fun u h => match intO u with
      | some u => evSlc h v l u
      | none => .bad
    | none => .bad := by (simp only [evE]) <;> rfl
@[simp] theorem x_rev (x : E) : evE b C (.rev x) env h = (evE b C x env h).bind fun v h => evRev h v := by (simp only [evE]) <;> rfl
@[simp] theorem x_blt (f : Bt) (es : Es) : evE b C (.blt f es) env h = (evEs b C es env h).bind fun ws h => evB f ws h := by (simp only [evE]) <;> rfl
@[simp] theorem x_mth (f : Mt) (o : E) (es : Es) : evE b C (.mth f o es) env h = (evE b C o env h).bind fun w h => if recv f h w then (evEs b C es env h).bind fun ws h => evM f w ws h else .bad := by (simp only [evE]) <;> rfl
@[simp] theorem x_sset (x : E) : evE b C (.sset x) env h = (evE b C x env h).bind fun v h => match (toD h v).bind listInts with
    | some ns => if ns.length < 60 then .ok (.d (.list ((sortU ns).map .int))) h else .bad
    | none => .bad := by (simp only [evE]) <;> rfl
@[simp] theorem x_call (f : Nat) (es : Es) : evE b C (.call f es) env h = (evEs b C es env h).bind fun ws h => C b f ws h := by (simp only [evE]) <;> rfl
@[simp] theorem x_lc (k : Nat) (t : List Nat) (u : Bool) (it : It) (c : Oe) (e : E) : evE b C (.lc k t u it c e) env h = (evIt b C it env h).bind fun ws h => (noEx (lcGo (fun w h => kpt ws.2 h (match bindT t u w env with
      | some env => (evOe b C c env h).bind fun q h => match boolO q with
        | some true => (evE b C e env h).bind fun r h => .ok (some r) h
        | some false => .ok none h
        | none => .bad
      | none => .bad)) ws.1 h)).bind fun rs h => lcEnd k rs h := by (simp only [evE]) <;> rfl
@[simp] theorem x_call0 (f : Nat) : evE b C (.call0 f) env h = C b f [] h := by (simp only [evE]) <;> rfl
@[simp] theorem x_dnewI : evE b C .dnewI env h = .ok (.l h.length) (h ++ [.dki []]) := by (simp only [evE]) <;> rfl
@[simp] theorem x_dnew : evE b C .dnew env h = .ok (.l h.length) (h ++ [.dct []]) := by (simp only [evE]) <;> rfl
@[simp] theorem x_cmp2 (o p : CmpOp) (x y z : E) : evE b C (.cmp2 o p x y z) env h = (evE b C x env h).bind fun v h => (evE b C y env h).bind fun w h => (cmpW o v w h).bind fun k h => match k with
    | .d (.bool true) => (evE b C z env h).bind fun u h => cmpW p w u h
    | .d (.bool false) => .ok (.d (.bool false)) h
    | _ => .bad := by (simp only [evE]) <;> rfl
@[simp] theorem x_isN (x : E) : evE b C (.isN x) env h = (evE b C x env h).bind fun v h => match v with
    | .d .none => .ok (.d (.bool true)) h
    | _ => .ok (.d (.bool false)) h := by (simp only [evE]) <;> rfl
@[simp] theorem x_isB (n k : Bool) (x : E) : evE b C (.isB n k x) env h = (evE b C x env h).bind fun v h => match v with
    | .d (.bool j) => .ok (.d (.bool (xor n (j == k)))) h
    | _ => .bad := by (simp only [evE]) <;> rfl
@[simp] theorem x_notN (x : E) : evE b C (.notN x) env h = (evE b C x env h).bind fun v h => match v with
    | .d .none => .ok (.d (.bool false)) h
    | _ => .ok (.d (.bool true)) h := by (simp only [evE]) <;> rfl
@[simp] theorem x_lsw (es : Es) : evE b C (.lsw es) env h = (evEs b C es env h).bind fun ws h => .ok (.l h.length) (h ++ [.lsw ws]) := by (simp only [evE]) <;> rfl
@[simp] theorem s_expr (e : E) : evS b C (.expr e) env h = (evE b C e env h).bind fun _ h => .ok (.nx env) h := by (simp only [evS]) <;> rfl
@[simp] theorem kpt_n {α : Type} {h : Hq} {r : R α} : kpt none h r = r := nr rfl
@[simp] theorem kpt_s {α : Type} {n : Nat} {h : Hq} {a : α} : kpt (some n) h (.ok a h) = .ok a h := by simp [kpt, R.bind]
theorem kpt_o {α : Type} {n : Nat} {h h' : Hq} {a : α} (e : h'[n]? = h[n]?) : kpt (some n) h (.ok a h') = .ok a h' := by simp [kpt, R.bind, e]
@[simp] theorem x_nil : evEs b C .nil env h = .ok [] h := by simp only [evEs]
@[simp] theorem x_cons (e : E) (es : Es) : evEs b C (.cons e es) env h = (evE b C e env h).bind fun w h => (evEs b C es env h).bind fun ws h => .ok (w :: ws) h := by simp only [evEs]
@[simp] theorem x_none : evOe b C .none env h = .ok none h := by simp only [evOe]
@[simp] theorem x_some (e : E) : evOe b C (.some e) env h = (evE b C e env h).bind fun w h => .ok (some w) h := by simp only [evOe]
@[simp] theorem x_ite (a : E) : evIt b C (.e a) env h = (evE b C a env h).bind fun w h => match itemsOf h w with
    | some ws => .ok (ws, liveW w) h
    | none => .bad := by (simp only [evIt]) <;> rfl
@[simp] theorem x_rg1 (a : E) : evIt b C (.rg1 a) env h = (evE b C a env h).bind fun w h => match w with
    | .d (.int n) => if rgOk 0 n then .ok (rangeUp 0 n, none) h else .bad
    | _ => .bad := by (simp only [evIt]) <;> rfl
@[simp] theorem x_rg2 (a c : E) : evIt b C (.rg2 a c) env h = (evE b C a env h).bind fun w h => (evE b C c env h).bind fun v h => match w, v with
    | .d (.int n), .d (.int k) => if rgOk n k then .ok (rangeUp n k, none) h else .bad
    | _, _ => .bad := by (simp only [evIt]) <;> rfl
@[simp] theorem x_rgd (a c : E) : evIt b C (.rgd a c) env h = (evE b C a env h).bind fun w h => (evE b C c env h).bind fun v h => match w, v with
    | .d (.int n), .d (.int k) => if rgOk k n then .ok (rangeDn n k, none) h else .bad
    | _, _ => .bad := by (simp only [evIt]) <;> rfl
@[simp] theorem s_asg (t : List Nat) (u : Bool) (e : E) : evS b C (.asg t u e) env h = (evE b C e env h).bind fun w h => match bindT t u w env with
    | some env => .ok (.nx env) h
    | none => .bad := by (simp only [evS]) <;> rfl
@[simp] theorem s_set (o i e : E) : evS b C (.set o i e) env h = (evE b C e env h).bind fun v h => (evE b C o env h).bind fun w h => (evE b C i env h).bind fun k h => (evSet b w k v h).bind fun _ h => .ok (.nx env) h := by (simp only [evS]) <;> rfl
@[simp] theorem s_app (o e : E) : evS b C (.app o e) env h = (evE b C o env h).bind fun w h => if recvL h w then (evE b C e env h).bind fun v h => (evApp b w v h).bind fun _ h => .ok (.nx env) h else .bad := by (simp only [evS]) <;> rfl
@[simp] theorem s_ret (e : E) : evS b C (.ret e) env h = (evE b C e env h).bind fun w h => .ok (.rt w) h := by (simp only [evS]) <;> rfl
@[simp] theorem s_retN : evS b C .retN env h = .ok (.rt (.d .none)) h := by (simp only [evS]) <;> rfl
@[simp] theorem s_ifs (c : E) (x y : Ss) : evS b C (.ifs c x y) env h = (evE b C c env h).bind fun v h => match v with
    | .d (.bool true) => evSs b C x env h
    | .d (.bool false) => evSs b C y env h
    | _ => .bad := by (simp only [evS]) <;> rfl
theorem s_for (t : List Nat) (u : Bool) (it : It) (s : Ss) : evS b C (.forS t u it s) env h = (evIt b C it env h).bind fun ws h => forGo (fun w env h => kpt ws.2 h (match bindT t u w env with
    | some env => evSs b C s env h
    | none => .bad)) ws.1 env h := by (simp only [evS]) <;> rfl
@[simp] theorem s_whl (n : Nat) (c : E) (s : Ss) : evS b C (.whl n c s) env h = whlGo (fun env h => evE b C c env h) (fun env h => evSs b C s env h) n env h := by (simp only [evS]) <;> rfl
@[simp] theorem s_pass : evS b C .pass env h = .ok (.nx env) h := by (simp only [evS]) <;> rfl
@[simp] theorem s_brk : evS b C .brk env h = .ok (.bk env) h := by (simp only [evS]) <;> rfl
@[simp] theorem s_cnt : evS b C .cnt env h = .ok (.ct env) h := by (simp only [evS]) <;> rfl
@[simp] theorem s_frz (i : Nat) : evS b C (.frz i) env h = evFrz i env h := by (simp only [evS]) <;> rfl
@[simp] theorem s_nil : evSs b C .nil env h = .ok (.nx env) h := by (simp only [evSs]) <;> rfl
@[simp] theorem s_cons (s : S) (ss : Ss) : evSs b C (.cons s ss) env h = (evS b C s env h).bind fun q h => match q with
    | .nx env => evSs b C ss env h
    | q => .ok q h := by (simp only [evSs]) <;> rfl
end
/-- a def's body, its end -/
def finR (tr : Bool) (n : Nat) : R Fl → R W
  | .ok (.nx _) h' => fin tr n (.d .none) h'
  | .ok (.rt w) h' => fin tr n w h'
  | .ok _ _ => .bad
  | .ex c ds h' => .ex c ds (if tr then h'.take n else h')
  | .bad => .bad
theorem call_of {T : List FD} {n b f : Nat} {fd : FD} (ws : List W) (h : Hq) (e : T[f]? = some fd) (l : ws.length = fd.np) :
    callN T (n + 1) b f ws h = finR fd.tr h.length (evSs (if fd.tr then h.length else b) (callN T n) fd.body (ws.map some ++ List.replicate (fd.ns - fd.np) none) h) := by
  simp only [callN, e, runF, if_pos l]
  cases evSs (if fd.tr then h.length else b) (callN T n) fd.body (ws.map some ++ List.replicate (fd.ns - fd.np) none) h with
  | ok f h => cases f <;> rfl
  | ex _ _ _ => rfl
  | bad => rfl
@[simp] theorem finR_rt {tr : Bool} {n : Nat} {w : W} {h : Hq} : finR tr n (.ok (.rt w) h) = fin tr n w h := nr rfl
@[simp] theorem finR_nx {tr : Bool} {n : Nat} {w : Vars} {h : Hq} : finR tr n (.ok (.nx w) h) = fin tr n (.d .none) h := nr rfl
@[simp] theorem fin_f {n : Nat} {w : W} {h : Hq} : fin false n w h = .ok w h := nr rfl
@[simp] theorem fin_t {n : Nat} {x : PyData} {h : Hq} : fin true n (.d x) h = .ok (.d x) (h.take n) := nr rfl

/-- a loop that runs to its end -/
theorem forGo_ok {f : W → Vars → Hq → R Fl} (I : Nat → Vars → Hq → Prop) : ∀ (ws : List W) (k : Nat) (env : Vars) (h : Hq), I k env h → (∀ j w env h, ws[j]? = some w → I (k + j) env h → ∃ env' h', f w env h = .ok (.nx env') h' ∧ I (k + j + 1) env' h') →
    ∃ env' h', forGo f ws env h = .ok (.nx env') h' ∧ I (k + ws.length) env' h'
  | [], k, env, h, i, _ => ⟨env, h, rfl, i⟩
  | w :: ws, k, env, h, i, st => by
    obtain ⟨env1, h1, e1, i1⟩ := st 0 w env h rfl i
    obtain ⟨env2, h2, e2, i2⟩ := forGo_ok I ws (k + 1) env1 h1 (by simpa using i1) (fun j w env h e i => by
      have := st (j + 1) w env h (by simpa using e) (by rw [show k + (j + 1) = k + 1 + j by omega]; exact i)
      rw [show k + 1 + j + 1 = k + (j + 1) + 1 by omega]
      exact this)
    refine ⟨env2, h2, ?_, by rw [List.length_cons, show k + (ws.length + 1) = k + 1 + ws.length by omega]; exact i2⟩
    simp only [forGo, e1, b_ok, e2]
/-- the same, the place not asked -/
theorem forGo_inv {f : W → Vars → Hq → R Fl} (I : Vars → Hq → Prop) (ws : List W) (env : Vars) (h : Hq) (i : I env h) (st : ∀ w env h, w ∈ ws → I env h → ∃ env' h', f w env h = .ok (.nx env') h' ∧ I env' h') :
    ∃ env' h', forGo f ws env h = .ok (.nx env') h' ∧ I env' h' :=
  forGo_ok (fun _ => I) ws 0 env h i fun j w env h e i => st w env h (List.mem_of_getElem? e) i
/-- a comprehension whose turns leave the heap alone -/
theorem lcGo_pure {f : W → Hq → R (Option W)} {h : Hq} (g : W → Option W) : ∀ (ws : List W), (∀ w ∈ ws, f w h = .ok (g w) h) → lcGo f ws h = .ok (ws.filterMap g) h
  | [], _ => rfl
  | w :: ws, e => by
    simp only [lcGo, e w List.mem_cons_self, b_ok, lcGo_pure g ws fun w hw => e w (List.mem_cons_of_mem _ hw), List.filterMap_cons]
    cases g w <;> rfl
theorem rangeUp_at {lo hi : Int} {j : Nat} {w : W} (e : (rangeUp lo hi)[j]? = some w) : w = .d (.int (lo + j)) ∧ (j : Int) < hi - lo := by
  unfold rangeUp at e
  rw [List.getElem?_map] at e
  cases q : (List.range (hi - lo).toNat)[j]? with
  | none => rw [q] at e; cases e
  | some i =>
    rw [q] at e
    cases e
    obtain ⟨l, rfl⟩ := List.getElem?_eq_some_iff.mp q
    simp only [List.length_range] at l
    simp only [List.getElem_range, true_and]
    omega
theorem rangeUp_mem {lo hi : Int} {w : W} (e : w ∈ rangeUp lo hi) : ∃ i : Int, w = .d (.int i) ∧ lo ≤ i ∧ i < hi := by
  obtain ⟨j, e⟩ := List.getElem?_of_mem e
  obtain ⟨e1, e2⟩ := rangeUp_at e
  exact ⟨_, e1, by omega, by omega⟩
@[simp] theorem rangeUp_len {lo hi : Int} : (rangeUp lo hi).length = (hi - lo).toNat := by unfold rangeUp; simp
theorem rg_of {lo hi : Int} (h1 : -1000000 ≤ lo) (h2 : lo ≤ 1000000) (h3 : -1000000 ≤ hi) (h4 : hi ≤ 1000000) : rgOk lo hi = true := by
  unfold rgOk
  rw [decide_eq_true_eq]
  omega
@[simp] theorem last_at {t : Hq} {o : Ob} : (t ++ [o])[t.length]? = some o := by simp
@[simp] theorem last_set {t : Hq} {o o' : Ob} : (t ++ [o]).set t.length o' = t ++ [o'] := by simp
@[simp] theorem last_take {t : Hq} {o : Ob} : (t ++ [o]).take t.length = t := by simp
theorem whl_step {c : Vars → Hq → R W} {f : Vars → Hq → R Fl} {n : Nat} {env env' : Vars} {h h1 h' : Hq} (e1 : c env h = .ok (.d (.bool true)) h1) (e2 : f env h1 = .ok (.nx env') h') : whlGo c f (n + 1) env h = whlGo c f n env' h' := by simp only [whlGo, e1, b_ok, e2]
theorem whl_end {c : Vars → Hq → R W} {f : Vars → Hq → R Fl} {n : Nat} {env : Vars} {h h1 : Hq} (e1 : c env h = .ok (.d (.bool false)) h1) : whlGo c f (n + 1) env h = .ok (.nx env) h1 := by simp only [whlGo, e1, b_ok]
theorem whl_ret {c : Vars → Hq → R W} {f : Vars → Hq → R Fl} {n : Nat} {env : Vars} {w : W} {h h1 h' : Hq} (e1 : c env h = .ok (.d (.bool true)) h1) (e2 : f env h1 = .ok (.rt w) h') : whlGo c f (n + 1) env h = .ok (.rt w) h' := by simp only [whlGo, e1, b_ok, e2]
end Ev

/-! EvP2: lemmas on values, to run the terms by simp. -/
namespace Ev
open PySem

section
variable {h : Hq} {i j : Int} {x y : PyData} {xs ys : List PyData} {n : Nat} {w : W} {ws : List W}
@[simp] theorem op2_d {f : PyData → PyData → Option PyData} : op2 f (.d x) (.d y) h = liftO (f x y) h := nr rfl
theorem opM_d {f : PyData → PyData → Option PyData} (e : f x y = some (.list xs)) : opM f (.d x) (.d y) h = .ok (.l h.length) (h ++ [.lst xs]) := by simp only [opM, toD, e]
theorem opM_l {f : PyData → PyData → Option PyData} {ys : List PyData} (e1 : h[n]? = some (.lst ys)) (e : f (.list ys) y = some (.list xs)) : opM f (.l n) (.d y) h = .ok (.l h.length) (h ++ [.lst xs]) := by simp only [opM, toD, e1, e]
@[simp] theorem liftO_s : liftO (some x) h = .ok (.d x) h := nr rfl
@[simp] theorem toD_d : toD h (.d x) = some x := nr rfl
@[simp] theorem toDD_d : toDD h (.d x) = some x := nr rfl
theorem toDD_l (e : h[n]? = some (.lst xs)) : toDD h (.l n) = some (.list xs) := by simp only [toDD, toDn, e]
@[simp] theorem dctOf_d : dctOf h (.d x) = none := nr rfl
theorem dctOf_l (e : h[n]? = some (.lst xs)) : dctOf h (.l n) = none := by simp only [dctOf, e]
theorem dctOf_w (e : h[n]? = some (.lsw ws)) : dctOf h (.l n) = none := by simp only [dctOf, e]
theorem dctOf_k {kvs : List (PyData × PyData)} (e : h[n]? = some (.dct kvs)) : dctOf h (.l n) = some kvs := by simp only [dctOf, e]
@[simp] theorem cmp_d {o : CmpOp} : cmpW o (.d x) (.d y) h = liftO (evCmp o x y) h := by simp only [cmpW, dctOf_d, toDD_d]
theorem cmp_dl {o : CmpOp} (e : h[n]? = some (.lst xs)) : cmpW o (.d x) (.l n) h = liftO (evCmp o x (.list xs)) h := by simp only [cmpW, dctOf_l e, toDD_d, toDD_l e]
theorem cmp_ld {o : CmpOp} (e : h[n]? = some (.lst xs)) : cmpW o (.l n) (.d y) h = liftO (evCmp o (.list xs) y) h := by simp only [cmpW, dctOf_d, toDD_d, toDD_l e]
theorem cmp_in {kvs : List (PyData × PyData)} (e : h[n]? = some (.dct kvs)) (k : isKey x = true) : cmpW .In (.d x) (.l n) h = .ok (.d (.bool (dget kvs x).isSome)) h := by simp only [cmpW, dctOf_k e, k, if_true]
theorem cmp_nin {kvs : List (PyData × PyData)} (e : h[n]? = some (.dct kvs)) (k : isKey x = true) : cmpW .NotIn (.d x) (.l n) h = .ok (.d (.bool (!(dget kvs x).isSome))) h := by simp only [cmpW, dctOf_k e, k, if_true]
theorem dct_at {kvs : List (PyData × PyData)} (e : h[n]? = some (.dct kvs)) (k : isKey x = true) (g : dget kvs x = some y) : evIdx h (.l n) (.d x) = .ok (.d y) h := by
  cases x <;> simp only [isKey, Bool.false_eq_true] at k
  simp only [evIdx, e, isKey, k, if_true, g]
  rfl
theorem dct_set {kvs : List (PyData × PyData)} {b : Nat} (e : h[n]? = some (.dct kvs)) (k : isKey x = true) (l : kvs.length < 1000000) : evSet b (.l n) (.d x) (.d y) h = .ok () (h.set n (.dct (dput kvs x y))) := by
  cases x <;> simp only [isKey, Bool.false_eq_true] at k
  have l' : decide (kvs.length < 1000000) = true := decide_eq_true l
  simp only [evSet, e, isKey, k, l', Bool.true_and, if_true]
theorem dct_get {kvs : List (PyData × PyData)} (e : h[n]? = some (.dct kvs)) (k : isKey x = true) : evM .get (.l n) [.d x, .d y] h = .ok (.d ((dget kvs x).getD y)) h := by
  simp only [evM, dctOf_k e, k, if_true]
  cases dget kvs x <;> rfl
theorem dctOf_i {kvs : List (Int × PyData)} (e : h[n]? = some (.dki kvs)) : dctOf h (.l n) = none := by simp only [dctOf, e]
theorem dki_in {kvs : List (Int × PyData)} {i : Int} (e : h[n]? = some (.dki kvs)) : cmpW .In (.d (.int i)) (.l n) h = .ok (.d (.bool (iget kvs i).isSome)) h := by simp only [cmpW, dctOf_i e, toDD_d, toDD, toDn, e, cmpI, dkiOf]
theorem dki_nin {kvs : List (Int × PyData)} {i : Int} (e : h[n]? = some (.dki kvs)) : cmpW .NotIn (.d (.int i)) (.l n) h = .ok (.d (.bool (!(iget kvs i).isSome))) h := by simp only [cmpW, dctOf_i e, toDD_d, toDD, toDn, e, cmpI, dkiOf]
theorem dki_at {kvs : List (Int × PyData)} {i : Int} (e : h[n]? = some (.dki kvs)) (g : iget kvs i = some y) : evIdx h (.l n) (.d (.int i)) = .ok (.d y) h := by
  simp only [evIdx, e, g]
  rfl
theorem dki_set {kvs : List (Int × PyData)} {i : Int} {b : Nat} (e : h[n]? = some (.dki kvs)) (l : kvs.length < 1000000) : evSet b (.l n) (.d (.int i)) (.d y) h = .ok () (h.set n (.dki (iput kvs i y))) := by
  simp only [evSet, e, l, if_true]
theorem toD_l (e : h[n]? = some (.lst xs)) : toD h (.l n) = some (.list xs) := by simp only [toD, e]
theorem op2_dl {f : PyData → PyData → Option PyData} (e : h[n]? = some (.lst xs)) : op2 f (.d x) (.l n) h = liftO (f x (.list xs)) h := by unfold op2; rw [toD_l e]; rfl
@[simp] theorem add_i : evBin .Add (.int i) (.int j) = some (.int (i + j)) := nr rfl
@[simp] theorem sub_i : evBin .Sub (.int i) (.int j) = some (.int (i - j)) := nr rfl
theorem mul_i (e : sOk i j = true) : evBin .Mult (.int i) (.int j) = some (.int (i * j)) := by simp only [evBin, e, if_true]
theorem sOk_r (h1 : -1000000000000 ≤ j) (h2 : j ≤ 1000000000000) : sOk i j = true := by unfold sOk; rw [decide_eq_true_eq]; omega
theorem sOk_l (h1 : -1000000000000 ≤ i) (h2 : i ≤ 1000000000000) : sOk i j = true := by unfold sOk; rw [decide_eq_true_eq]; omega
theorem div_i (e : divOk j = true) : evBin .FloorDiv (.int i) (.int j) = some (.int (i.fdiv j)) := by simp only [evBin, e, if_true]
theorem divOk_of (h1 : 0 < j) (h2 : j ≤ 1000000) : divOk j = true := by unfold divOk; rw [decide_eq_true_eq]; omega
theorem mod_i (e : j ≠ 0) : evBin .Mod (.int i) (.int j) = some (.int (i.fmod j)) := by simp only [evBin]; rw [if_pos e]
@[simp] theorem div_k (h1 : 0 < j) (h2 : j ≤ 1000000) : evBin .FloorDiv (.int i) (.int j) = some (.int (i.fdiv j)) := div_i (divOk_of h1 h2)
@[simp] theorem mod_k (h1 : 0 < j) : evBin .Mod (.int i) (.int j) = some (.int (i.fmod j)) := mod_i (Int.ne_of_gt h1)
@[simp] theorem mul_r (h1 : -1000000000000 ≤ j) (h2 : j ≤ 1000000000000) : evBin .Mult (.int i) (.int j) = some (.int (i * j)) := mul_i (sOk_r h1 h2)
@[simp] theorem mul_l (h1 : -1000000000000 ≤ i) (h2 : i ≤ 1000000000000) : evBin .Mult (.int i) (.int j) = some (.int (i * j)) := mul_i (sOk_l h1 h2)
@[simp] theorem pow_18 : evBin .Pow (.int 10) (.int 18) = some (.int 1000000000000000000) := nr rfl
@[simp] theorem lt_i : evCmp .Lt (.int i) (.int j) = some (.bool (decide (i < j))) := nr rfl
@[simp] theorem le_i : evCmp .LtE (.int i) (.int j) = some (.bool (decide (i ≤ j))) := nr rfl
@[simp] theorem gt_i : evCmp .Gt (.int i) (.int j) = some (.bool (decide (j < i))) := nr rfl
@[simp] theorem ge_i : evCmp .GtE (.int i) (.int j) = some (.bool (decide (j ≤ i))) := nr rfl
@[simp] theorem dpt_i : dpt (.int i) = true := nr rfl
@[simp] theorem dpt_b {k : Bool} : dpt (.bool k) = true := nr rfl
@[simp] theorem dpt_n : dpt .none = true := nr rfl
@[simp] theorem dpt_s {s : Str} : dpt (.str s) = true := nr rfl
@[simp] theorem eq_d (e : (dpt x || dpt y) = true) : evCmp .Eq x y = some (.bool (PyData.eqv x y)) := by simp only [evCmp, e, if_true]
@[simp] theorem ne_d (e : (dpt x || dpt y) = true) : evCmp .NotEq x y = some (.bool (!PyData.eqv x y)) := by simp only [evCmp, e, if_true]
@[simp] theorem eqv_i : PyData.eqv (.int i) (.int j) = decide (i = j) := by simp only [PyData.eqv]; exact rfl
@[simp] theorem eqv_s {s t : Str} : PyData.eqv (.str s) (.str t) = decide (s = t) := by simp only [PyData.eqv]; exact rfl
@[simp] theorem in_l (e : dpt x = true) : evCmp .In x (.list ys) = some (.bool (ys.any fun y => PyData.eqv y x)) := by simp only [evCmp, e, if_true]
@[simp] theorem in_t (e : dpt x = true) : evCmp .In x (.tuple ys) = some (.bool (ys.any fun y => PyData.eqv y x)) := by simp only [evCmp, e, if_true]
@[simp] theorem nin_l (e : dpt x = true) : evCmp .NotIn x (.list ys) = some (.bool (!ys.any fun y => PyData.eqv y x)) := by simp only [evCmp, e, if_true]
@[simp] theorem nin_t (e : dpt x = true) : evCmp .NotIn x (.tuple ys) = some (.bool (!ys.any fun y => PyData.eqv y x)) := by simp only [evCmp, e, if_true]
theorem atZ_nat {α : Type} {l : List α} {k : Nat} : atZ l (k : Int) = l[k]? := by
  unfold atZ L2.atI L2.ixN
  by_cases hk : k < l.length
  · rw [if_pos (by omega), if_pos (by omega)]; simp
  · rw [if_pos (by omega), if_neg (by omega), List.getElem?_eq_none (by omega)]; rfl
theorem atZ_int {α : Type} {l : List α} {k : Int} (e : 0 ≤ k) : atZ l k = l[k.toNat]? := by
  obtain ⟨m, rfl⟩ := Int.eq_ofNat_of_zero_le e
  exact atZ_nat
@[simp] theorem atZ_0 {α : Type} {l : List α} : atZ l 0 = l[0]? := atZ_nat (k := 0)
@[simp] theorem atZ_1 {α : Type} {l : List α} : atZ l 1 = l[1]? := atZ_nat (k := 1)
@[simp] theorem atZ_2 {α : Type} {l : List α} : atZ l 2 = l[2]? := atZ_nat (k := 2)
@[simp] theorem atZ_3 {α : Type} {l : List α} : atZ l 3 = l[3]? := atZ_nat (k := 3)
@[simp] theorem idx_l : evIdx h (.d (.list xs)) (.d (.int i)) = liftO (atZ xs i) h := nr rfl
@[simp] theorem idx_t : evIdx h (.d (.tuple xs)) (.d (.int i)) = liftO (atZ xs i) h := nr rfl
theorem idx_o (e : h[n]? = some (.lst xs)) : evIdx h (.l n) (.d (.int i)) = liftO (atZ xs i) h := by simp only [evIdx, e]
@[simp] theorem idx_o0 {t : Hq} : evIdx (.lst xs :: t) (.l 0) (.d (.int i)) = liftO (atZ xs i) (.lst xs :: t) := idx_o rfl
theorem set_o (e : h[n]? = some (.lst xs)) {k : Nat} (ek : L2.ixN xs.length i = some k) {b : Nat} : evSet b (.l n) (.d (.int i)) (.d x) h = .ok () (h.set n (.lst (xs.set k x))) := by simp only [evSet, e, ek]
@[simp] theorem set_b {t : Hq} {b : Nat} : evSet b (.l 0) (.d (.int 1)) (.d x) (.lst [y, w'] :: t) = .ok () (.lst [y, x] :: t) := nr rfl
@[simp] theorem len_l : evB .len [.d (.list xs)] h = .ok (.d (.int xs.length)) h := nr rfl
@[simp] theorem len_t : evB .len [.d (.tuple xs)] h = .ok (.d (.int xs.length)) h := nr rfl
theorem len_o (e : h[n]? = some (.lst xs)) : evB .len [.l n] h = .ok (.d (.int xs.length)) h := by simp only [evB, evLen, e]
@[simp] theorem int_i : evB .int [.d (.int i)] h = .ok (.d (.int i)) h := nr rfl
@[simp] theorem int_b {k : Bool} : evB .int [.d (.bool k)] h = .ok (.d (.int (if k then 1 else 0))) h := nr rfl
@[simp] theorem tup_l : evB .tuple [.d (.list xs)] h = .ok (.d (.tuple xs)) h := nr rfl
@[simp] theorem tup_t : evB .tuple [.d (.tuple xs)] h = .ok (.d (.tuple xs)) h := nr rfl
theorem tup_o (e : h[n]? = some (.lst xs)) : evB .tuple [.l n] h = .ok (.d (.tuple xs)) h := by simp only [evB, toD, e]; rfl
theorem app_o {b : Nat} (e : h[n]? = some (.lst xs)) (hl : xs.length < 1000000) : evApp b (.l n) (.d x) h = .ok () (h.set n (.lst (xs ++ [x]))) := by
  simp only [evApp, e]
  rw [if_pos (by unfold SZ; omega)]
theorem recvL_o (e : h[n]? = some (.lst xs)) : recvL h (.l n) = true := by simp only [recvL, e]
@[simp] theorem it_l : itemsOf h (.d (.list xs)) = some (xs.map .d) := nr rfl
theorem it_o (e : h[n]? = some (.lst xs)) : itemsOf h (.l n) = some (xs.map .d) := by simp only [itemsOf, e]
theorem it_w (e : h[n]? = some (.lsw ws)) : itemsOf h (.l n) = some ws := by simp only [itemsOf, e]
@[simp] theorem live_d : liveW (.d x) = none := nr rfl
@[simp] theorem live_l : liveW (.l n) = some n := nr rfl
@[simp] theorem it_t : itemsOf h (.d (.tuple xs)) = some (xs.map .d) := nr rfl
@[simp] theorem bind_1 {k : Nat} {env : Vars} : bindT [k] false w env = some (env.set k (some w)) := nr rfl
@[simp] theorem allD_0 : allD [] = some [] := nr rfl
@[simp] theorem allD_c : allD (.d x :: ws) = (allD ws).map (x :: ·) := nr rfl
theorem allD_map : allD (xs.map .d) = some xs := by
  induction xs with
  | nil => rfl
  | cons x xs ih => simp only [List.map_cons, allD, ih]; rfl
@[simp] theorem c_at {o o' : Ob} {t : Hq} : (o :: (t ++ [o']))[t.length + 1]? = some o' := by simp
@[simp] theorem noEx_ok {α : Type} {a : α} : noEx (.ok a h) = .ok a h := nr rfl
theorem allD_mapf {α : Type} {g : α → PyData} : ∀ l : List α, allD (l.map fun x => W.d (g x)) = some (l.map g)
  | [] => rfl
  | x :: l => by simp only [List.map_cons, allD, allD_mapf l]; rfl
theorem allD_comp {α : Type} {g : α → PyData} (l : List α) : allD (l.map (W.d ∘ g)) = some (l.map g) := allD_mapf l
theorem lcEnd_0 {ds : List PyData} (e : allD ws = some ds) : lcEnd 0 ws h = .ok (.d (.list ds)) h := by simp only [lcEnd, e]
@[simp] theorem lcEnd_m {α : Type} {g : α → PyData} {l : List α} : lcEnd 0 (l.map fun x => W.d (g x)) h = .ok (.d (.list (l.map g))) h := lcEnd_0 (allD_mapf l)
@[simp] theorem lcEnd_c {α : Type} {g : α → PyData} {l : List α} : lcEnd 0 (l.map (W.d ∘ g)) h = .ok (.d (.list (l.map g))) h := lcEnd_0 (allD_mapf l)
@[simp] theorem boolO_n : boolO none = some true := nr rfl
@[simp] theorem boolO_b {k : Bool} : boolO (some (.d (.bool k))) = some k := nr rfl
/-- a comprehension that filters -/
theorem lc_filter {α : Type} {f : W → Hq → R (Option W)} {emb : α → W} {g : α → W} {p : α → Bool} : ∀ (l : List α), (∀ x ∈ l, f (emb x) h = .ok (if p x then some (g x) else none) h) → lcGo f (l.map emb) h = .ok ((l.filter p).map g) h
  | [], _ => rfl
  | x :: l, e => by
    simp only [List.map_cons, lcGo, e x List.mem_cons_self, b_ok, lc_filter l fun y hy => e y (List.mem_cons_of_mem _ hy), List.filter_cons]
    cases p x <;> rfl
/-- a comprehension that maps -/
theorem lc_map {α : Type} {f : W → Hq → R (Option W)} {emb : α → W} {g : α → W} : ∀ (l : List α), (∀ x ∈ l, f (emb x) h = .ok (some (g x)) h) → lcGo f (l.map emb) h = .ok (l.map g) h
  | [], _ => rfl
  | x :: l, e => by
    simp only [List.map_cons, lcGo, e x List.mem_cons_self, b_ok, lc_map l fun y hy => e y (List.mem_cons_of_mem _ hy)]
@[simp] theorem any_int {l : List Int} : ((l.map PyData.int).any fun y => PyData.eqv y (.int i)) = decide (i ∈ l) := by
  rw [Bool.eq_iff_iff]
  simp
@[simp] theorem any_str {l : List Str} {s : Str} : ((l.map PyData.str).any fun y => PyData.eqv y (.str s)) = decide (s ∈ l) := by
  rw [Bool.eq_iff_iff]
  simp
@[simp] theorem any_int' {l : List Int} : (l.any ((fun y => PyData.eqv y (.int i)) ∘ PyData.int)) = decide (i ∈ l) := by
  rw [Bool.eq_iff_iff]
  simp
@[simp] theorem any_str' {l : List Str} {s : Str} : (l.any ((fun y => PyData.eqv y (.str s)) ∘ PyData.str)) = decide (s ∈ l) := by
  rw [Bool.eq_iff_iff]
  simp
theorem cutL_map {α β : Type} {f : α → β} {l : List α} {lo hi : Option Int} : cutL (l.map f) lo hi = (cutL l lo hi).map f := by simp [cutL]
theorem cutL_sub {α : Type} {l : List α} {lo hi : Option Int} : (cutL l lo hi).Sublist l := (List.take_sublist _ _).trans (List.drop_sublist _ _)
@[simp] theorem slc_l {lo hi : Option Int} : evSlc h (.d (.list xs)) lo hi = .ok (.d (.list (cutL xs lo hi))) h := nr rfl
@[simp] theorem rev_l : evRev h (.d (.list xs)) = .ok (.d (.list xs.reverse)) h := nr rfl
@[simp] theorem rev_t : evRev h (.d (.tuple xs)) = .ok (.d (.tuple xs.reverse)) h := nr rfl
@[simp] theorem slc_t {lo hi : Option Int} : evSlc h (.d (.tuple xs)) lo hi = .ok (.d (.tuple (cutL xs lo hi))) h := nr rfl
@[simp] theorem intO_n : intO none = some none := nr rfl
@[simp] theorem intO_i : intO (some (.d (.int i))) = some (some i) := nr rfl
theorem intsOf_map : ∀ l : List Int, intsOf (l.map .int) = some l
  | [] => rfl
  | x :: l => by simp only [List.map_cons, intsOf, intsOf_map l]; rfl
@[simp] theorem add_l (e : xs.length + ys.length ≤ 1000000) : evBin .Add (.list xs) (.list ys) = some (.list (xs ++ ys)) := by simp only [evBin]; rw [if_pos (by unfold SZ; omega)]
@[simp] theorem add_t (e : xs.length + ys.length ≤ 1000000) : evBin .Add (.tuple xs) (.tuple ys) = some (.tuple (xs ++ ys)) := by simp only [evBin]; rw [if_pos (by unfold SZ; omega)]
@[simp] theorem add_s {s t : Str} (e : s.length + t.length ≤ 1000000) : evBin .Add (.str s) (.str t) = some (.str (s ++ t)) := by simp only [evBin]; rw [if_pos (by unfold SZ; omega)]
@[simp] theorem listInts_m {l : List Int} : listInts (.list (l.map .int)) = some l := intsOf_map l
theorem sortP_i {l : List Int} : sortP (l.map .int) = some ((sortI l).map .int) := by simp only [sortP, intsOf_map]
theorem maxP_i {l : List Int} : maxP (l.map .int) = (maxI l).map .int := by simp only [maxP, intsOf_map]
theorem minP_i {l : List Int} : minP (l.map .int) = (minI l).map .int := by simp only [minP, intsOf_map]
theorem sorted_o {l : List Int} (e : h[n]? = some (.lst (l.map .int))) : evB .sorted [.l n] h = .ok (.d (.list ((sortI l).map .int))) h := by
  simp only [evB, toD_l e, Option.bind_some, seqOf, sortP_i, Option.map_some, liftO_s]
@[simp] theorem sorted_d {l : List Int} : evB .sorted [.d (.list (l.map .int))] h = .ok (.d (.list ((sortI l).map .int))) h := by
  simp only [evB, toD_d, Option.bind_some, seqOf, sortP_i, Option.map_some, liftO_s]
@[simp] theorem sorted_t {l : List Int} : evB .sorted [.d (.tuple (l.map .int))] h = .ok (.d (.list ((sortI l).map .int))) h := by
  simp only [evB, toD_d, Option.bind_some, seqOf, sortP_i, Option.map_some, liftO_s]
theorem max_d {l : List Int} {m : Int} (e : maxI l = some m) : evB .max [.d (.list (l.map .int))] h = .ok (.d (.int m)) h := by
  simp only [evB, toD_d, Option.bind_some, seqOf, maxP_i, e, Option.map_some, liftO_s]
theorem max_t {l : List Int} {m : Int} (e : maxI l = some m) : evB .max [.d (.tuple (l.map .int))] h = .ok (.d (.int m)) h := by
  simp only [evB, toD_d, Option.bind_some, seqOf, maxP_i, e, Option.map_some, liftO_s]
theorem min_d {l : List Int} {m : Int} (e : minI l = some m) : evB .min [.d (.list (l.map .int))] h = .ok (.d (.int m)) h := by
  simp only [evB, toD_d, Option.bind_some, seqOf, minP_i, e, Option.map_some, liftO_s]
@[simp] theorem mem_sortI {l : List Int} : i ∈ sortI l ↔ i ∈ l := by simp [sortI]
theorem rangeDn_at {lo hi : Int} {j : Nat} {w : W} (e : (rangeDn hi lo)[j]? = some w) : w = .d (.int (hi - j)) ∧ (j : Int) < hi - lo := by
  unfold rangeDn at e
  rw [List.getElem?_map] at e
  cases q : (List.range (hi - lo).toNat)[j]? with
  | none => rw [q] at e; cases e
  | some i =>
    rw [q] at e
    cases e
    obtain ⟨l, rfl⟩ := List.getElem?_eq_some_iff.mp q
    simp only [List.length_range] at l
    simp only [List.getElem_range, true_and]
    omega
@[simp] theorem rangeDn_len {lo hi : Int} : (rangeDn hi lo).length = (hi - lo).toNat := by unfold rangeDn; simp
theorem eqvAll_ints : ∀ {l l' : List Int}, PyData.eqvAll (l.map .int) (l'.map .int) = decide (l = l')
  | [], [] => by simp [PyData.eqvAll]
  | [], _ :: _ => by simp [PyData.eqvAll]
  | _ :: _, [] => by simp [PyData.eqvAll]
  | x :: l, y :: l' => by
    simp only [List.map_cons, PyData.eqvAll, eqv_i, eqvAll_ints]
    by_cases h : x = y <;> simp [h]
@[simp] theorem eqv_ti {l l' : List Int} : PyData.eqv (.tuple (l.map .int)) (.tuple (l'.map .int)) = decide (l = l') := by simp only [PyData.eqv, eqvAll_ints]
@[simp] theorem eqv_li {l l' : List Int} : PyData.eqv (.list (l.map .int)) (.list (l'.map .int)) = decide (l = l') := by simp only [PyData.eqv, eqvAll_ints]
theorem depthAll_ints : ∀ {l : List Int}, PyData.depthAll (l.map .int) ≤ 1
  | [] => by simp [PyData.depthAll]
  | x :: l => by
    have := depthAll_ints (l := l)
    simp only [List.map_cons, PyData.depthAll, PyData.depth]
    omega
@[simp] theorem dpt_ti {l : List Int} : dpt (.tuple (l.map .int)) = true := by
  unfold dpt
  have := depthAll_ints (l := l)
  refine decide_eq_true ?_
  simp only [PyData.depth]
  omega
@[simp] theorem dpt_li {l : List Int} : dpt (.list (l.map .int)) = true := by
  unfold dpt
  have := depthAll_ints (l := l)
  refine decide_eq_true ?_
  simp only [PyData.depth]
  omega
@[simp] theorem dpt_l0 : dpt (.list []) = true := dpt_li (l := [])
@[simp] theorem eqv_l0 {l : List PyData} : PyData.eqv (.list l) (.list []) = l.isEmpty := by cases l <;> simp [PyData.eqv, PyData.eqvAll]
@[simp] theorem listInts_f {α : Type} {l : List α} {f : α → Int} : listInts (.list (l.map fun a => .int (f a))) = some (l.map f) := by
  have := intsOf_map (l.map f)
  rw [List.map_map] at this
  exact this
theorem cut_take {α : Type} {l : List α} {k : Nat} : cutL l none (some (k : Int)) = l.take k := by
  unfold cutL
  rw [HT.sIx_none, HT.sIx_nat]
  simp
/-- a loop that may return v -/
theorem forGo_all {f : W → Vars → Hq → R Fl} (I : Vars → Prop) (p : W → Bool) (v : W) : ∀ (ws : List W) (env : Vars), I env →
    (∀ w env, w ∈ ws → I env → (p w = true → ∃ env', f w env h = .ok (.nx env') h ∧ I env') ∧ (p w = false → f w env h = .ok (.rt v) h)) →
    (ws.all p = true → ∃ env', forGo f ws env h = .ok (.nx env') h ∧ I env') ∧ (ws.all p = false → forGo f ws env h = .ok (.rt v) h)
  | [], env, i, _ => ⟨fun _ => ⟨env, rfl, i⟩, fun z => by simp at z⟩
  | w :: ws, env, i, st => by
    obtain ⟨s1, s2⟩ := st w env List.mem_cons_self i
    cases e : p w with
    | false =>
      refine ⟨fun z => by simp [e] at z, fun _ => ?_⟩
      simp only [forGo, s2 e, b_ok]
    | true =>
      obtain ⟨env', e1, i1⟩ := s1 e
      obtain ⟨t1, t2⟩ := forGo_all I p v ws env' i1 fun w env hw => st w env (List.mem_cons_of_mem _ hw)
      simp only [List.all_cons, e, Bool.true_and]
      refine ⟨fun z => ?_, fun z => ?_⟩
      · obtain ⟨env2, e2, i2⟩ := t1 z
        exact ⟨env2, by simp only [forGo, e1, b_ok, e2], i2⟩
      · simp only [forGo, e1, b_ok, t2 z]
end
end Ev

/-! EvP3: how long a shown thing is; keys; more to run the terms by simp. -/
namespace Ev
open PySem

/-- shown with at most k signs, at most j deep -/
structure Sm (k j : Nat) (d : PyData) : Prop where
  sh : d.showable = true
  dp : d.depth ≤ j
  len : d.shown.length ≤ k
theorem Sm.mono {k j k' j' : Nat} {d : PyData} (s : Sm k j d) (h : k ≤ k') (h' : j ≤ j') : Sm k' j' d := ⟨s.sh, Nat.le_trans s.dp h', Nat.le_trans s.len h⟩
theorem sm_none : Sm 41 0 .none := ⟨rfl, by simp [PyData.depth], by decide +kernel⟩
theorem sm_bool {b : Bool} : Sm 41 0 (.bool b) := ⟨rfl, by simp [PyData.depth], by cases b <;> decide +kernel⟩
theorem sm_int {i : Int} (h : i.natAbs < 10 ^ 40) : Sm 41 0 (.int i) := by
  refine ⟨?_, by simp [PyData.depth], ?_⟩
  · simp only [PyData.showable, decide_eq_true_eq]
    by_cases e : i.natAbs = 0
    · rw [e]; decide
    · refine (Nat.log2_lt e).mpr (Nat.lt_trans h (by decide +kernel))
  · show (Str.ofString (toString i)).length ≤ 41
    rw [ofString_length]
    exact int_text_length_le10 (by decide) h
theorem sm_str {s : Str} (h : ∀ c ∈ s.cps.toList, c < 16 ^ 8) : Sm (10 * s.length + 2) 0 (.str s) := ⟨rfl, by simp [PyData.depth], by
  have := StrLaws.reprText_len s h
  simp only [PyData.shown]
  omega⟩
theorem join_len (ts : List Str) : (Str.join ", " ts).length ≤ piled ts := by
  by_cases h : ts = []
  · subst h; decide +kernel
  · have := join_length_add ts h
    omega
theorem textFrom_le : ∀ (ts : List Str) (k : Nat) (acc : Str), (textFrom k acc ts).length ≤ acc.length + piled ts
  | [], k, acc => by show acc.length ≤ acc.length + 0; omega
  | t :: r, k, acc => by
    have ih := textFrom_le r (k + 1) (acc ++ (if k > 0 then ", " else "" : String) ++ t)
    have e : (acc ++ (if k > 0 then ", " else "" : String) ++ t).length ≤ acc.length + 2 + t.length := by
      rw [strLen_append, strLen_append]
      split
      · have : ((", " : String) : Str).length = 2 := rfl
        omega
      · have : (("" : String) : Str).length = 0 := rfl
        omega
    rw [piled_cons]
    show (textFrom (k + 1) _ r).length ≤ _
    omega
theorem piled_le {k : Nat} : ∀ {ds : List PyData}, (∀ d ∈ ds, d.shown.length ≤ k) → piled (PyData.shownAll ds) ≤ ds.length * (k + 2)
  | [], _ => by simp [PyData.shownAll, piled]
  | d :: ds, h => by
    have h1 := h d List.mem_cons_self
    have h2 := piled_le (ds := ds) fun x hx => h x (List.mem_cons_of_mem _ hx)
    simp only [PyData.shownAll, piled_cons, List.length_cons, Nat.add_mul]
    omega
theorem showableAll_of : ∀ {ds : List PyData}, (∀ d ∈ ds, d.showable = true) → PyData.showableAll ds = true
  | [], _ => rfl
  | d :: ds, h => by simp only [PyData.showableAll, h d List.mem_cons_self, showableAll_of fun x hx => h x (List.mem_cons_of_mem _ hx), Bool.and_self]
theorem depthAll_of {j : Nat} : ∀ {ds : List PyData}, (∀ d ∈ ds, d.depth ≤ j) → PyData.depthAll ds ≤ j
  | [], _ => by simp [PyData.depthAll]
  | d :: ds, h => by
    have h1 := h d List.mem_cons_self
    have h2 := depthAll_of (ds := ds) fun x hx => h x (List.mem_cons_of_mem _ hx)
    simp only [PyData.depthAll]
    omega
theorem sm_tup {k j : Nat} {ds : List PyData} (h : ∀ d ∈ ds, Sm k j d) : Sm (ds.length * (k + 2) + 3) (j + 1) (.tuple ds) := by
  refine ⟨by simp only [PyData.showable]; exact showableAll_of fun d hd => (h d hd).sh, ?_, ?_⟩
  · have := depthAll_of fun d hd => (h d hd).dp
    simp only [PyData.depth]; omega
  · have h1 := piled_le fun d hd => (h d hd).len
    have h2 := join_len (PyData.shownAll ds)
    have h3 : ∀ c : Bool, ((if c = true then ",)" else ")" : String) : Str).length ≤ 2 := fun c => by cases c <;> decide +kernel
    have h4 : (("(" : String) : Str).length = 1 := rfl
    have e : (PyData.shown (.tuple ds)).length = (("(" : String) : Str).length + (Str.join ", " (PyData.shownAll ds)).length + ((if ((PyData.shownAll ds).length == 1) = true then ",)" else ")" : String) : Str).length := by
      simp only [PyData.shown, tupleText]
      rw [strLen_append, strLen_append]
    have := h3 ((PyData.shownAll ds).length == 1)
    omega
theorem sm_lst {k j : Nat} {ds : List PyData} (h : ∀ d ∈ ds, Sm k j d) : Sm (ds.length * (k + 2) + 3) (j + 1) (.list ds) := by
  refine ⟨by simp only [PyData.showable]; exact showableAll_of fun d hd => (h d hd).sh, ?_, ?_⟩
  · have := depthAll_of fun d hd => (h d hd).dp
    simp only [PyData.depth]; omega
  · have h1 := piled_le fun d hd => (h d hd).len
    have h2 := textFrom_le (PyData.shownAll ds) 0 "["
    have h4 : (("[" : String) : Str).length = 1 := rfl
    have h5 : (("]" : String) : Str).length = 1 := rfl
    have e : (PyData.shown (.list ds)).length = (textFrom 0 "[" (PyData.shownAll ds)).length + (("]" : String) : Str).length := by
      simp only [PyData.shown, listText]
      rw [strLen_append]
    omega
theorem shownP_of {k j : Nat} {d : PyData} (s : Sm k j d) (h : k ≤ 16777216 := by omega) (h' : j ≤ 150 := by omega) : shownP d = some (.str d.shown) := by
  unfold shownP
  have := s.dp
  have := s.len
  rw [if_pos]
  rw [Bool.and_eq_true, Bool.and_eq_true]
  exact ⟨s.sh, decide_eq_true (by omega), decide_eq_true (by unfold SZ; omega)⟩
theorem repr_d {k j : Nat} {d : PyData} {h : Hq} (s : Sm k j d) (hk : k ≤ 16777216 := by omega) (hj : j ≤ 150 := by omega) : evB .repr [.d d] h = .ok (.d (.str d.shown)) h := by
  simp only [evB, toDD_d, Option.bind_some, shownP_of s hk hj, liftO_s]

/-! ### small data -/
/-- small numbers in a row -/
theorem sm_ints {l : List Int} {n : Nat} (hn : l.length ≤ n) (h : ∀ x ∈ l, x.natAbs < 10 ^ 40) : Sm (43 * n + 3) 1 (.tuple (l.map .int)) := by
  have : Sm ((l.map PyData.int).length * (41 + 2) + 3) 1 (.tuple (l.map .int)) := sm_tup fun d hd => by
    obtain ⟨x, hx, rfl⟩ := List.mem_map.mp hd
    exact sm_int (h x hx)
  refine this.mono ?_ (Nat.le_refl _)
  rw [List.length_map]
  omega
theorem dpt_of {d : PyData} {k j : Nat} (s : Sm k j d) (h : j ≤ 150 := by omega) : dpt d = true := by
  unfold dpt
  have := s.dp
  exact decide_eq_true (by omega)

/-! ### keys -/
theorem nkeys_ints : ∀ l : List Int, nkeys (l.map .int) = some (l.map .num)
  | [] => rfl
  | x :: l => by simp only [List.map_cons, nkeys, nkey, nkeys_ints l]
theorem nkey_ti {l : List Int} : nkey (.tuple (l.map .int)) = some (.tup (l.map .num)) := by simp only [nkey, nkeys_ints, Option.map_some]
theorem depth_ti {l : List Int} : PyData.depth (.tuple (l.map .int)) ≤ 1 := by
  have := PySem.W.depth_ints l
  simp only [PyData.depth]
  omega
@[simp] theorem isKey_ti {l : List Int} : isKey (.tuple (l.map .int)) = true := by
  have := depth_ti (l := l)
  simp only [isKey, nkey_ti, Option.isSome_some, Bool.true_and]
  exact decide_eq_true (by omega)
theorem num_inj : ∀ {l l' : List Int}, l.map NestedKey.num = l'.map NestedKey.num → l = l'
  | [], [], _ => rfl
  | [], _ :: _, h => by simp at h
  | _ :: _, [], h => by simp at h
  | x :: l, y :: l', h => by
    simp only [List.map_cons, List.cons.injEq, NestedKey.num.injEq] at h
    rw [h.1, num_inj h.2]
@[simp] theorem keyEq_ti {l l' : List Int} : keyEq (.tuple (l.map .int)) (.tuple (l'.map .int)) = decide (l = l') := by
  unfold keyEq
  rw [nkey_ti, nkey_ti, decide_eq_decide]
  constructor
  · intro h
    have h := Option.some.inj h
    injection h with h
    exact num_inj h
  · intro h; rw [h]
end Ev

/-! EvP4: rows of natural numbers, of truth values; loops over a range, over a list. -/
namespace Ev
open PySem
/-- a natural number -/
abbrev ni (k : Nat) : PyData := .int (k : Int)
abbrev bo (k : Bool) : PyData := .bool k
section
variable {h : Hq} {n : Nat}
theorem rangeUp_nat {n : Nat} : rangeUp 0 (n : Int) = (List.range n).map (W.d ∘ ni) := by
  unfold rangeUp
  simp [Function.comp_def]
theorem rg_nat {n : Nat} (h : n ≤ 1000000) : rgOk 0 (n : Int) = true := rg_of (by omega) (by omega) (by omega) (by omega)
theorem for_up {f : W → Vars → Hq → R Fl} (n : Nat) (I : Nat → Vars → Hq → Prop) {env : Vars} {h : Hq} (i : I 0 env h) (st : ∀ j env h, j < n → I j env h → ∃ env' h', f (.d (.int (j : Nat))) env h = .ok (.nx env') h' ∧ I (j + 1) env' h') :
    ∃ env' h', forGo f (rangeUp 0 n) env h = .ok (.nx env') h' ∧ I n env' h' := by
  obtain ⟨env', h', e, i'⟩ := forGo_ok (f := f) I (rangeUp 0 n) 0 env h i fun j w env h e i => by
    obtain ⟨rfl, hj⟩ := rangeUp_at e
    have := st j env h (by omega) (by simpa using i)
    simpa using this
  refine ⟨env', h', e, ?_⟩
  have hl : 0 + (rangeUp 0 (n : Int)).length = n := by rw [rangeUp_len]; omega
  rw [hl] at i'
  exact i'
theorem for_dn {f : W → Vars → Hq → R Fl} (n : Nat) (I : Nat → Vars → Hq → Prop) {env : Vars} {h : Hq} (i : I 0 env h) (st : ∀ j env h, j ≤ n → I j env h → ∃ env' h', f (.d (.int ((n - j : Nat) : Int))) env h = .ok (.nx env') h' ∧ I (j + 1) env' h') :
    ∃ env' h', forGo f (rangeDn n (-1)) env h = .ok (.nx env') h' ∧ I (n + 1) env' h' := by
  obtain ⟨env', h', e, i'⟩ := forGo_ok (f := f) I (rangeDn n (-1)) 0 env h i fun j w env h e i => by
    obtain ⟨rfl, hj⟩ := rangeDn_at e
    have := st j env h (by omega) (by simpa using i)
    rw [show (n : Int) - (j : Int) = ((n - j : Nat) : Int) by omega]
    simpa using this
  refine ⟨env', h', e, ?_⟩
  have hl : 0 + (rangeDn (n : Int) (-1)).length = n + 1 := by rw [rangeDn_len]; omega
  rw [hl] at i'
  exact i'
theorem for_list {α : Type} {f : W → Vars → Hq → R Fl} {emb : α → W} (l : List α) (I : Nat → Vars → Hq → Prop) {env : Vars} {h : Hq} (i : I 0 env h) (st : ∀ j x env h, l[j]? = some x → I j env h → ∃ env' h', f (emb x) env h = .ok (.nx env') h' ∧ I (j + 1) env' h') :
    ∃ env' h', forGo f (l.map emb) env h = .ok (.nx env') h' ∧ I l.length env' h' := by
  obtain ⟨env', h', e, i'⟩ := forGo_ok (f := f) I (l.map emb) 0 env h i fun j w env h e i => by
    rw [List.getElem?_map] at e
    obtain ⟨x, ex, rfl⟩ := Option.map_eq_some_iff.mp e
    have := st j x env h ex (by simpa using i)
    simpa using this
  refine ⟨env', h', e, ?_⟩
  rw [List.length_map, Nat.zero_add] at i'
  exact i'
/-- a loop that may return false: p says where it goes on -/
theorem for_check {α : Type} {f : W → Vars → Hq → R Fl} {emb : α → W} (l : List α) (I : Vars → Prop) (env : Vars) (i : I env) (st : ∀ x env, x ∈ l → I env → ∃ env', f (emb x) env h = .ok (.nx env') h ∧ I env') : ∃ env', forGo f (l.map emb) env h = .ok (.nx env') h ∧ I env' := by
  obtain ⟨env', h', e, eh, i'⟩ := for_list (f := f) l (fun _ env h' => h = h' ∧ I env) ⟨rfl, i⟩ fun j x env h' e q => by
    obtain ⟨eh, q⟩ := q
    subst eh
    obtain ⟨env', e2, i2⟩ := st x env (List.mem_of_getElem? e) q
    exact ⟨env', _, e2, rfl, i2⟩
  subst eh
  exact ⟨env', e, i'⟩
/-- a comprehension over a row -/
theorem lc_go {α : Type} {f : W → Hq → R (Option W)} {emb : α → W} (g : α → Option W) : ∀ (l : List α), (∀ x ∈ l, f (emb x) h = .ok (g x) h) → lcGo f (l.map emb) h = .ok (l.filterMap g) h
  | [], _ => rfl
  | x :: l, e => by
    simp only [List.map_cons, lcGo, e x List.mem_cons_self, b_ok, lc_go g l fun y hy => e y (List.mem_cons_of_mem _ hy), List.filterMap_cons]
    cases g x <;> rfl
/-! ### rows -/
@[simp] theorem any_nat {l : List Nat} {k : Nat} : ((l.map ni).any fun y => PyData.eqv y (.int (k : Int))) = decide (k ∈ l) := by
  rw [Bool.eq_iff_iff]
  simp only [List.any_map, List.any_eq_true, Function.comp, eqv_i, decide_eq_true_eq]
  constructor
  · rintro ⟨x, hx, e⟩
    have : x = k := by exact_mod_cast e
    exact this ▸ hx
  · intro hx
    exact ⟨k, hx, rfl⟩
theorem intsOf_nat : ∀ l : List Nat, intsOf (l.map ni) = some (l.map fun k : Nat => (k : Int))
  | [] => rfl
  | x :: l => by simp only [List.map_cons, intsOf, intsOf_nat l]; rfl
theorem ni_map {l : List Nat} : l.map ni = (l.map fun k : Nat => (k : Int)).map PyData.int := by rw [List.map_map]; rfl
theorem cast_inj : ∀ {l l' : List Nat}, (l.map fun k : Nat => (k : Int)) = l'.map (fun k : Nat => (k : Int)) → l = l'
  | [], [], _ => rfl
  | [], _ :: _, h => by simp at h
  | _ :: _, [], h => by simp at h
  | x :: l, y :: l', h => by
    simp only [List.map_cons, List.cons.injEq] at h
    rw [cast_inj h.2]
    congr 1
    exact_mod_cast h.1
@[simp] theorem eqv_tn {l l' : List Nat} : PyData.eqv (.tuple (l.map ni)) (.tuple (l'.map ni)) = decide (l = l') := by
  rw [ni_map, ni_map, eqv_ti, decide_eq_decide]
  exact ⟨cast_inj, fun e => by rw [e]⟩
@[simp] theorem eqv_ln {l l' : List Nat} : PyData.eqv (.list (l.map ni)) (.list (l'.map ni)) = decide (l = l') := by
  rw [ni_map, ni_map, eqv_li, decide_eq_decide]
  exact ⟨cast_inj, fun e => by rw [e]⟩
@[simp] theorem dpt_tn {l : List Nat} : dpt (.tuple (l.map ni)) = true := by rw [ni_map]; exact dpt_ti
@[simp] theorem dpt_ln {l : List Nat} : dpt (.list (l.map ni)) = true := by rw [ni_map]; exact dpt_li
theorem depthAll_bools : ∀ l : List Bool, PyData.depthAll (l.map bo) = 0
  | [] => rfl
  | x :: l => by simp only [List.map_cons, PyData.depthAll, depthAll_bools l, PyData.depth]; rfl
@[simp] theorem dpt_lb {l : List Bool} : dpt (.list (l.map bo)) = true := by
  unfold dpt
  have := depthAll_bools l
  exact decide_eq_true (by simp only [PyData.depth]; omega)
@[simp] theorem dpt_tb {l : List Bool} : dpt (.tuple (l.map bo)) = true := by
  unfold dpt
  have := depthAll_bools l
  exact decide_eq_true (by simp only [PyData.depth]; omega)
@[simp] theorem eqv_bo {a b : Bool} : PyData.eqv (.bool a) (.bool b) = decide (a = b) := by cases a <;> cases b <;> decide +kernel
theorem eqvAll_bools : ∀ {l l' : List Bool}, PyData.eqvAll (l.map bo) (l'.map bo) = decide (l = l')
  | [], [] => by simp [PyData.eqvAll]
  | [], _ :: _ => by simp [PyData.eqvAll]
  | _ :: _, [] => by simp [PyData.eqvAll]
  | x :: l, y :: l' => by
    simp only [List.map_cons, PyData.eqvAll, eqv_bo, eqvAll_bools]
    by_cases h : x = y <;> simp [h]
@[simp] theorem eqv_lb {l l' : List Bool} : PyData.eqv (.list (l.map bo)) (.list (l'.map bo)) = decide (l = l') := by simp only [PyData.eqv, eqvAll_bools]
@[simp] theorem eqv_tb {l l' : List Bool} : PyData.eqv (.tuple (l.map bo)) (.tuple (l'.map bo)) = decide (l = l') := by simp only [PyData.eqv, eqvAll_bools]
/-- l == [], [] == l -/
@[simp] theorem any_bool {l : List Bool} {k : Bool} : ((l.map bo).any fun y => PyData.eqv y (.bool k)) = decide (k ∈ l) := by
  rw [Bool.eq_iff_iff]
  simp only [List.any_map, List.any_eq_true, Function.comp, eqv_bo, decide_eq_true_eq]
  exact ⟨fun ⟨x, hx, e⟩ => e ▸ hx, fun hx => ⟨k, hx, rfl⟩⟩
theorem sortI_asc {l : List Int} (h : l.Pairwise (· ≤ ·)) : sortI l = l := by
  refine List.Perm.eq_of_pairwise (le := (· ≤ ·)) (fun a b _ _ h1 h2 => Int.le_antisymm h1 h2) ?_ h (List.mergeSort_perm _ _)
  have := List.pairwise_mergeSort (le := fun (a b : Int) => decide (a ≤ b)) (fun a b c h1 h2 => by simp only [decide_eq_true_eq] at *; omega) (fun a b => by simp only [Bool.or_eq_true, decide_eq_true_eq]; omega) l
  exact this.imp fun h => of_decide_eq_true h
theorem sortI_pw (l : List Int) : (sortI l).Pairwise (· ≤ ·) := by
  have := List.pairwise_mergeSort (le := fun (a b : Int) => decide (a ≤ b)) (fun a b c h1 h2 => by simp only [decide_eq_true_eq] at *; omega) (fun a b => by simp only [Bool.or_eq_true, decide_eq_true_eq]; omega) l
  exact this.imp fun h => of_decide_eq_true h
theorem sortI_perm (l : List Int) : (sortI l).Perm l := List.mergeSort_perm _ _
theorem asc_eq' {a b : List Int} (ha : a.Pairwise (· < ·)) (hb : b.Pairwise (· < ·)) (h : ∀ k, k ∈ a ↔ k ∈ b) : a = b := asc_eq ha hb h
theorem bind_2 {i j : Nat} {x y : PyData} {env : Vars} : bindT [i, j] true (.d (.tuple [x, y])) env = some ((env.set i (some (.d x))).set j (some (.d y))) := by simp [bindT, setAll]
theorem boolsOf_map : ∀ l : List Bool, boolsOf (l.map bo) = some l
  | [] => rfl
  | x :: l => by simp only [List.map_cons, boolsOf, boolsOf_map l]; rfl
@[simp] theorem all_d {l : List Bool} : evB .all [.d (.list (l.map bo))] h = .ok (.d (.bool (l.all id))) h := by simp only [evB, toD_d, Option.bind_some, listBools, boolsOf_map, Option.map_some, liftO_s]
@[simp] theorem any_d {l : List Bool} : evB .any [.d (.list (l.map bo))] h = .ok (.d (.bool (l.any id))) h := by simp only [evB, toD_d, Option.bind_some, listBools, boolsOf_map, Option.map_some, liftO_s]
end
end Ev
namespace Ev
open PySem
section
variable {b : Nat} {C : CallF} {s : S} {ss : Ss} {env env' : Vars} {h h' : Hq} {w : W}
theorem seq_nx (e : evS b C s env h = .ok (.nx env') h') : evSs b C (.cons s ss) env h = evSs b C ss env' h' := by simp only [s_cons, e, b_ok]
theorem seq_rt (e : evS b C s env h = .ok (.rt w) h') : evSs b C (.cons s ss) env h = .ok (.rt w) h' := by simp only [s_cons, e, b_ok]
end
end Ev
namespace Ev
open PySem
section
variable {h : Hq}
@[simp] theorem lcEnd_1 {α : Type} {g : α → PyData} {l : List α} : lcEnd 1 (l.map fun x => W.d (g x)) h = .ok (.l h.length) (h ++ [.lst (l.map g)]) := by simp only [lcEnd, allD_mapf]
@[simp] theorem lcEnd_1c {α : Type} {g : α → PyData} {l : List α} : lcEnd 1 (l.map (W.d ∘ g)) h = .ok (.l h.length) (h ++ [.lst (l.map g)]) := by simp only [lcEnd, allD_comp]
@[simp] theorem lcEnd_2 {ws : List W} : lcEnd 2 ws h = .ok (.l h.length) (h ++ [.lsw ws]) := nr rfl
end
end Ev
namespace Ev
open PySem
section
variable {h t : Hq} {a b c a' b' : Ob}
@[simp] theorem at2_0 : (h ++ [a, b])[h.length]? = some a := by simp
@[simp] theorem at2_1 : (h ++ [a, b])[h.length + 1]? = some b := by simp
@[simp] theorem set2_0 : (h ++ [a, b]).set h.length a' = h ++ [a', b] := by simp
@[simp] theorem set2_1 : (h ++ [a, b]).set (h.length + 1) b' = h ++ [a, b'] := by simp
@[simp] theorem take2 : (h ++ [a, b]).take h.length = h := by simp
@[simp] theorem at3_0 : (h ++ [a, b, c])[h.length]? = some a := by simp
@[simp] theorem at3_1 : (h ++ [a, b, c])[h.length + 1]? = some b := by simp
@[simp] theorem at3_2 : (h ++ [a, b, c])[h.length + 2]? = some c := by simp
@[simp] theorem set3_0 : (h ++ [a, b, c]).set h.length a' = h ++ [a', b, c] := by simp
@[simp] theorem set3_1 : (h ++ [a, b, c]).set (h.length + 1) b' = h ++ [a, b', c] := by simp
@[simp] theorem set3_2 : (h ++ [a, b, c]).set (h.length + 2) b' = h ++ [a, b, b'] := by simp
@[simp] theorem take3 : (h ++ [a, b, c]).take h.length = h := by simp
theorem ixN_nat {n k : Nat} (hk : k < n) : L2.ixN n (k : Int) = some k := by
  unfold L2.ixN
  rw [if_pos (by omega), if_pos (by omega)]
  simp
theorem toDD_w {n : Nat} {ws : List W} (e : h[n]? = some (.lsw ws)) (r : ∀ w ∈ ws, ∃ x, toDn 2 h w = some x) : ∃ ds, toDD h (.l n) = some (.list ds) ∧ ds.length = ws.length := by
  have : ∃ ds, allO (ws.map (toDn 2 h)) = some ds ∧ ds.length = ws.length := by
    clear e
    induction ws with
    | nil => exact ⟨[], rfl, rfl⟩
    | cons w ws ih =>
      obtain ⟨ds, e1, e2⟩ := ih fun w hw => r w (List.mem_cons_of_mem _ hw)
      obtain ⟨x, ex⟩ := r w List.mem_cons_self
      exact ⟨x :: ds, by simp only [List.map_cons, ex, allO, e1, Option.map_some], by simp [e2]⟩
  obtain ⟨ds, e1, e2⟩ := this
  exact ⟨ds, by simp only [toDD, toDn, e, e1, Option.map_some], e2⟩
theorem toDn_l {n k : Nat} {xs : List PyData} (e : h[n]? = some (.lst xs)) : toDn (k + 1) h (.l n) = some (.list xs) := by simp only [toDn, e]
/-- l == [] for a list of lists -/
theorem eq_nil_w {n : Nat} {ws : List W} (e : h[n]? = some (.lsw ws)) (r : ∀ w ∈ ws, ∃ x, toDn 2 h w = some x) : cmpW .Eq (.l n) (.d (.list [])) h = .ok (.d (.bool ws.isEmpty)) h := by
  obtain ⟨ds, e1, e2⟩ := toDD_w e r
  simp only [cmpW, dctOf_d, e1, toDD_d]
  rw [eq_d (by simp), eqv_l0]
  simp only [liftO_s]
  cases ds <;> cases ws <;> simp at e2 <;> rfl
end
end Ev
namespace Ev
open PySem
section
variable {k : Nat} {l : List Nat}
@[simp high] theorem in_tn : evCmp .In (.int (k : Int)) (.tuple (l.map ni)) = some (.bool (decide (k ∈ l))) := by rw [in_t dpt_i, any_nat]
@[simp high] theorem nin_tn : evCmp .NotIn (.int (k : Int)) (.tuple (l.map ni)) = some (.bool (!decide (k ∈ l))) := by rw [nin_t dpt_i, any_nat]
@[simp high] theorem in_ln : evCmp .In (.int (k : Int)) (.list (l.map ni)) = some (.bool (decide (k ∈ l))) := by rw [in_l dpt_i, any_nat]
@[simp high] theorem nin_ln : evCmp .NotIn (.int (k : Int)) (.list (l.map ni)) = some (.bool (!decide (k ∈ l))) := by rw [nin_l dpt_i, any_nat]
end
end Ev

namespace Ev
open PySem PySem.Spec L2
abbrev ancestors_b3_s0 : S := (.app (.var 2) (.var 4))
def ancestors_b3 : Ss := (.cons ancestors_b3_s0 .nil)
abbrev ancestors_b2_s0 : S := (.ifs (.cmp .NotIn (.var 4) (.var 2)) ancestors_b3 .nil)
def ancestors_b2 : Ss := (.cons ancestors_b2_s0 .nil)
abbrev ancestors_b1_s0 : S := (.forS [4] false (.e (.idx (.idx (.idx (.var 0) (.lit (.int 1))) (.var 3)) (.lit (.int 1)))) ancestors_b2)
def ancestors_b1 : Ss := (.cons ancestors_b1_s0 .nil)
abbrev ancestors_b0_s0 : S := (.ifs (.cmp .In (.var 3) (.var 2)) ancestors_b1 .nil)
def ancestors_b0 : Ss := (.cons ancestors_b0_s0 .nil)
abbrev ancestors_s0 : S := (.asg [2] false (.lstM (.cons (.var 1) .nil)))
abbrev ancestors_s1 : S := (.forS [3] false (.rgd (.var 1) (.neg (.lit (.int 1)))) ancestors_b0)
abbrev ancestors_s2 : S := (.ret (.blt .tuple (.cons (.blt .sorted (.cons (.var 2) .nil)) .nil)))
def f_ancestors : FD := ⟨2, 5, true, (.cons ancestors_s0 (.cons ancestors_s1 (.cons ancestors_s2 .nil)))⟩
def n_ancestors : List Str := ["history", "m", "found", "k", "parent"]
abbrev testable_s0 : S := (.ret (.lc 0 [2] false (.rg1 (.blt .len (.cons (.idx (.var 0) (.lit (.int 1))) .nil))) (.some (.cmp .NotIn (.var 2) (.var 1))) (.var 2)))
def f_testable : FD := ⟨2, 3, false, (.cons testable_s0 .nil)⟩
def n_testable : List Str := ["history", "skipped", "m"]
abbrev classes_b2_s0 : S := (.app (.var 4) (.var 7))
abbrev classes_b2_s1 : S := (.app (.var 5) (.tup (.cons (.var 6) .nil)))
def classes_b2 : Ss := (.cons classes_b2_s0 (.cons classes_b2_s1 .nil))
abbrev classes_b1_s0 : S := (.asg [9] false (.mth .index (.var 4) (.cons (.var 7) .nil)))
abbrev classes_b1_s1 : S := (.set (.var 5) (.var 9) (.bin .Add (.idx (.var 5) (.var 9)) (.tup (.cons (.var 6) .nil))))
def classes_b1 : Ss := (.cons classes_b1_s0 (.cons classes_b1_s1 .nil))
abbrev classes_b0_s0 : S := (.asg [7] false (.lc 0 [8] false (.e (.var 2)) .none (.cmp .In (.var 6) (.var 8))))
abbrev classes_b0_s1 : S := (.ifs (.cmp .In (.var 7) (.var 4)) classes_b1 classes_b2)
def classes_b0 : Ss := (.cons classes_b0_s0 (.cons classes_b0_s1 .nil))
abbrev classes_s0 : S := (.asg [2] false (.lc 0 [3] false (.e (.call 1 (.cons (.var 0) (.cons (.var 1) .nil)))) .none (.call 0 (.cons (.var 0) (.cons (.var 3) .nil)))))
abbrev classes_s1 : S := (.asg [4] false (.lstM .nil))
abbrev classes_s2 : S := (.asg [5] false (.lstM .nil))
abbrev classes_s3 : S := (.forS [6] false (.rg1 (.blt .len (.cons (.idx (.var 0) (.lit (.int 1))) .nil))) classes_b0)
abbrev classes_s4 : S := (.ret (.blt .tuple (.cons (.var 5) .nil)))
def f_classes : FD := ⟨2, 10, true, (.cons classes_s0 (.cons classes_s1 (.cons classes_s2 (.cons classes_s3 (.cons classes_s4 .nil)))))⟩
def n_classes : List Str := ["history", "skipped", "rows", "m", "marks", "found", "c", "mark", "row", "at"]
abbrev broken_by_s0 : S := (.asg [3] false (.call 0 (.cons (.var 0) (.cons (.var 2) .nil))))
abbrev broken_by_s1 : S := (.ret (.lc 0 [4] false (.rg1 (.blt .len (.cons (.var 1) .nil))) (.some (.cmp .In (.idx (.idx (.var 1) (.var 4)) (.lit (.int 0))) (.var 3))) (.var 4)))
def f_broken_by : FD := ⟨3, 5, false, (.cons broken_by_s0 (.cons broken_by_s1 .nil))⟩
def n_broken_by : List Str := ["history", "found", "m", "row", "k"]
abbrev tests_b1_s0 : S := (.app (.var 3) (.var 6))
abbrev tests_b1_s1 : S := (.app (.var 4) (.var 5))
def tests_b1 : Ss := (.cons tests_b1_s0 (.cons tests_b1_s1 .nil))
abbrev tests_b0_s0 : S := (.asg [6] false (.call 3 (.cons (.var 0) (.cons (.var 2) (.cons (.var 5) .nil)))))
abbrev tests_b0_s1 : S := (.ifs (.and (.cmp2 .Lt .Lt (.lit (.int 0)) (.blt .len (.cons (.var 6) .nil)) (.blt .len (.cons (.var 2) .nil))) (.one (.cmp .NotIn (.var 6) (.var 3)))) tests_b1 .nil)
def tests_b0 : Ss := (.cons tests_b0_s0 (.cons tests_b0_s1 .nil))
abbrev tests_s0 : S := (.asg [2] false (.call 2 (.cons (.var 0) (.cons (.var 1) .nil))))
abbrev tests_s1 : S := (.asg [3] false (.lstM .nil))
abbrev tests_s2 : S := (.asg [4] false (.lstM .nil))
abbrev tests_s3 : S := (.forS [5] false (.e (.call 1 (.cons (.var 0) (.cons (.var 1) .nil)))) tests_b0)
abbrev tests_s4 : S := (.ret (.blt .tuple (.cons (.var 4) .nil)))
def f_tests : FD := ⟨2, 7, true, (.cons tests_s0 (.cons tests_s1 (.cons tests_s2 (.cons tests_s3 (.cons tests_s4 .nil)))))⟩
def n_tests : List Str := ["history", "skipped", "found", "rows", "makes", "m", "row"]
abbrev start_s0 : S := (.ret (.bin .Mult (.tup (.cons (.var 2) .nil)) (.blt .len (.cons (.call 2 (.cons (.var 0) (.cons (.var 1) .nil))) .nil))))
def f_start : FD := ⟨3, 3, false, (.cons start_s0 .nil)⟩
def n_start : List Str := ["history", "skipped", "k"]
abbrev lowered_s0 : S := (.ret (.blt .tuple (.cons (.lc 0 [2] false (.rg1 (.blt .len (.cons (.var 0) .nil))) .none (.blt .max (.cons (.neg (.lit (.int 1))) (.cons (.bin .Sub (.idx (.var 0) (.var 2)) (.blt .int (.cons (.cmp .In (.var 2) (.var 1)) .nil))) .nil)))) .nil)))
def f_lowered : FD := ⟨2, 3, false, (.cons lowered_s0 .nil)⟩
def n_lowered : List Str := ["state", "row", "k"]
abbrev against_row_b0_s0 : S := (.ret (.var 1))
def against_row_b0 : Ss := (.cons against_row_b0_s0 .nil)
abbrev against_row_s0 : S := (.ifs (.cmp .Eq (.var 2) (.lit (.str "works"))) against_row_b0 .nil)
abbrev against_row_s1 : S := (.ret (.lc 0 [3] false (.rg1 (.var 0)) (.some (.cmp .NotIn (.var 3) (.var 1))) (.var 3)))
def f_against_row : FD := ⟨3, 4, false, (.cons against_row_s0 (.cons against_row_s1 .nil))⟩
def n_against_row : List Str := ["many", "row", "word", "k"]
abbrev after_s0 : S := (.asg [4] false (.call 3 (.cons (.var 0) (.cons (.call 2 (.cons (.var 0) (.cons (.var 1) .nil))) (.cons (.idx (.var 3) (.lit (.int 1))) .nil)))))
abbrev after_s1 : S := (.ret (.call 6 (.cons (.var 2) (.cons (.call 7 (.cons (.blt .len (.cons (.var 2) .nil)) (.cons (.var 4) (.cons (.idx (.var 3) (.lit (.int 0))) .nil)))) .nil))))
def f_after : FD := ⟨4, 5, false, (.cons after_s0 (.cons after_s1 .nil))⟩
def n_after : List Str := ["history", "skipped", "state", "answer", "row"]
abbrev check_size_b1_s0 : S := .bad
def check_size_b1 : Ss := (.cons check_size_b1_s0 .nil)
abbrev check_size_b0_s0 : S := (.asg [1] false (.bin .Mult (.var 1) (.bin .Add (.blt .max (.cons (.bin .Add (.var 0) (.tup (.cons (.lit (.int 0)) .nil))) .nil)) (.lit (.int 2)))))
def check_size_b0 : Ss := (.cons check_size_b0_s0 .nil)
abbrev check_size_s0 : S := (.asg [1] false (.lit (.int 1)))
abbrev check_size_s1 : S := (.forS [2] false (.rg1 (.blt .len (.cons (.var 0) .nil))) check_size_b0)
abbrev check_size_s2 : S := (.ifs (.cmp .Gt (.var 1) (.glb 20000)) check_size_b1 .nil)
def f_check_size : FD := ⟨1, 3, false, (.cons check_size_s0 (.cons check_size_s1 (.cons check_size_s2 .nil)))⟩
def n_check_size : List Str := ["state", "many", "k"]
abbrev rows_of_s0 : S := (.asg [2] false (.call 2 (.cons (.var 0) (.cons (.var 1) .nil))))
abbrev rows_of_s1 : S := (.ret (.lc 0 [3] false (.e (.call 4 (.cons (.var 0) (.cons (.var 1) .nil)))) .none (.tup (.cons (.var 3) (.cons (.call 3 (.cons (.var 0) (.cons (.var 2) (.cons (.var 3) .nil)))) .nil)))))
def f_rows_of : FD := ⟨2, 4, false, (.cons rows_of_s0 (.cons rows_of_s1 .nil))⟩
def n_rows_of : List Str := ["history", "skipped", "found", "m"]
abbrev ones_in_s0 : S := (.ret (.lc 0 [1] false (.rg1 (.blt .len (.cons (.var 0) .nil))) (.some (.cmp .GtE (.idx (.var 0) (.var 1)) (.lit (.int 0)))) (.var 1)))
def f_ones_in : FD := ⟨1, 2, false, (.cons ones_in_s0 .nil)⟩
def n_ones_in : List Str := ["state", "k"]
abbrev is_useful_s0 : S := (.asg [2] false (.call 11 (.cons (.var 0) .nil)))
abbrev is_useful_s1 : S := (.asg [3] false (.blt .len (.cons (.lc 0 [4] false (.e (.var 2)) (.some (.cmp .In (.var 4) (.var 1))) (.var 4)) .nil)))
abbrev is_useful_s2 : S := (.ret (.cmp2 .Lt .Lt (.lit (.int 0)) (.var 3) (.blt .len (.cons (.var 2) .nil))))
def f_is_useful : FD := ⟨2, 5, false, (.cons is_useful_s0 (.cons is_useful_s1 (.cons is_useful_s2 .nil)))⟩
def n_is_useful : List Str := ["state", "row", "inside", "many", "k"]
abbrev both_after_s0 : S := (.asg [2] false (.blt .len (.cons (.var 0) .nil)))
abbrev both_after_s1 : S := (.ret (.lst (.cons (.call 6 (.cons (.var 0) (.cons (.call 7 (.cons (.var 2) (.cons (.var 1) (.cons (.lit (.str "broken")) .nil)))) .nil))) (.cons (.call 6 (.cons (.var 0) (.cons (.call 7 (.cons (.var 2) (.cons (.var 1) (.cons (.lit (.str "works")) .nil)))) .nil))) .nil))))
def f_both_after : FD := ⟨2, 3, false, (.cons both_after_s0 (.cons both_after_s1 .nil))⟩
def n_both_after : List Str := ["state", "row", "many"]
abbrev value_b4_s0 : S := (.asg [3] false (.var 6))
def value_b4 : Ss := (.cons value_b4_s0 .nil)
abbrev value_b3_s0 : S := (.asg [6] false (.bin .Add (.lit (.int 1)) (.blt .max (.cons (.lc 0 [7] false (.e (.call 13 (.cons (.var 1) (.cons (.var 5) .nil)))) .none (.call 14 (.cons (.var 0) (.cons (.var 7) (.cons (.var 2) .nil))))) .nil))))
abbrev value_b3_s1 : S := (.ifs (.or (.cmp .Lt (.var 3) (.lit (.int 0))) (.one (.cmp .Lt (.var 6) (.var 3)))) value_b4 .nil)
def value_b3 : Ss := (.cons value_b3_s0 (.cons value_b3_s1 .nil))
abbrev value_b2_s0 : S := (.ifs (.call 12 (.cons (.var 1) (.cons (.var 5) .nil))) value_b3 .nil)
def value_b2 : Ss := (.cons value_b2_s0 .nil)
abbrev value_b1_s0 : S := (.asg [3] false (.neg (.lit (.int 1))))
abbrev value_b1_s1 : S := (.forS [4, 5] true (.e (.var 0)) value_b2)
abbrev value_b1_s2 : S := (.set (.var 2) (.var 1) (.var 3))
def value_b1 : Ss := (.cons value_b1_s0 (.cons value_b1_s1 (.cons value_b1_s2 .nil)))
abbrev value_b0_s0 : S := (.ret (.lit (.int 0)))
def value_b0 : Ss := (.cons value_b0_s0 .nil)
abbrev value_s0 : S := (.ifs (.cmp .LtE (.blt .len (.cons (.call 11 (.cons (.var 1) .nil)) .nil)) (.lit (.int 1))) value_b0 .nil)
abbrev value_s1 : S := (.ifs (.cmp .NotIn (.var 1) (.var 2)) value_b1 .nil)
abbrev value_s2 : S := (.ret (.idx (.var 2) (.var 1)))
def f_value : FD := ⟨3, 8, false, (.cons value_s0 (.cons value_s1 (.cons value_s2 .nil)))⟩
def n_value : List Str := ["rows", "state", "known", "best", "m", "row", "most", "other"]
abbrev fewest_from_s0 : S := (.expr (.call 9 (.cons (.var 2) .nil)))
abbrev fewest_from_s1 : S := (.ret (.call 14 (.cons (.call 10 (.cons (.var 0) (.cons (.var 1) .nil))) (.cons (.var 2) (.cons .dnew .nil)))))
def f_fewest_from : FD := ⟨3, 3, true, (.cons fewest_from_s0 (.cons fewest_from_s1 .nil))⟩
def n_fewest_from : List Str := ["history", "skipped", "state"]
abbrev fewest_s0 : S := (.ret (.call 15 (.cons (.var 0) (.cons (.var 1) (.cons (.call 5 (.cons (.var 0) (.cons (.var 1) (.cons (.var 2) .nil)))) .nil)))))
def f_fewest : FD := ⟨3, 3, false, (.cons fewest_s0 .nil)⟩
def n_fewest : List Str := ["history", "skipped", "k"]
abbrev counts_of_s0 : S := (.asg [2] false (.lc 0 [3, 4] true (.e (.var 0)) (.some (.cmp .Eq (.var 4) (.var 1))) (.var 3)))
abbrev counts_of_s1 : S := (.ret (.tup (.cons (.mth .count (.var 2) (.cons (.lit (.str "works")) .nil)) (.cons (.mth .count (.var 2) (.cons (.lit (.str "broken")) .nil)) .nil))))
def f_counts_of : FD := ⟨2, 5, false, (.cons counts_of_s0 (.cons counts_of_s1 .nil))⟩
def n_counts_of : List Str := ["answers", "make", "told", "kind", "index"]
abbrev fewest_by_make_s0 : S := (.asg [4] false (.ife (.cmp .Eq (.var 3) (.lit (.str "two"))) (.bin .Add (.bin .Mult (.lit (.int 2)) (.var 2)) (.lit (.int 1))) (.bin .Add (.var 2) (.lit (.int 1)))))
abbrev fewest_by_make_s1 : S := (.ret (.bin .Mult (.var 4) (.call 16 (.cons (.var 0) (.cons (.var 1) (.cons (.lit (.int 0)) .nil))))))
def f_fewest_by_make : FD := ⟨4, 5, false, (.cons fewest_by_make_s0 (.cons fewest_by_make_s1 .nil))⟩
def n_fewest_by_make : List Str := ["history", "skipped", "k", "rule", "times"]
abbrev held_back_b1_s0 : S := (.ret (.lit (.str "")))
def held_back_b1 : Ss := (.cons held_back_b1_s0 .nil)
abbrev held_back_b0_s0 : S := (.ret (.ife (.cmp .Lt (.bin .Add (.var 4) (.var 5)) (.var 2)) (.lit (.str "works")) (.lit (.str ""))))
def held_back_b0 : Ss := (.cons held_back_b0_s0 .nil)
abbrev held_back_s0 : S := (.asg [4, 5] true (.call 17 (.cons (.var 0) (.cons (.var 1) .nil))))
abbrev held_back_s1 : S := (.ifs (.cmp .Eq (.var 3) (.lit (.str "one"))) held_back_b0 .nil)
abbrev held_back_s2 : S := (.ifs (.cmp .GtE (.bin .Add (.var 4) (.var 5)) (.bin .Mult (.lit (.int 2)) (.var 2))) held_back_b1 .nil)
abbrev held_back_s3 : S := (.ret (.ife (.cmp .Eq (.bin .Mult (.bin .FloorDiv (.bin .Add (.var 4) (.var 5)) (.lit (.int 2))) (.lit (.int 2))) (.bin .Add (.var 4) (.var 5))) (.lit (.str "works")) (.lit (.str "broken"))))
def f_held_back : FD := ⟨4, 6, false, (.cons held_back_s0 (.cons held_back_s1 (.cons held_back_s2 (.cons held_back_s3 .nil))))⟩
def n_held_back : List Str := ["answers", "make", "k", "rule", "works", "broken"]
abbrev law_cell_b0_s0 : S := (.ret (.idx (.var 0) (.var 1)))
def law_cell_b0 : Ss := (.cons law_cell_b0_s0 .nil)
abbrev law_cell_s0 : S := (.ifs (.cmp .Lt (.var 1) (.blt .len (.cons (.var 0) .nil))) law_cell_b0 .nil)
abbrev law_cell_s1 : S := (.ret (.lit (.int 0)))
def f_law_cell : FD := ⟨2, 2, false, (.cons law_cell_s0 (.cons law_cell_s1 .nil))⟩
def n_law_cell : List Str := ["_law_script", "_law_k"]
abbrev law_digits_b6_s0 : S := (.asg [7] false (.bin .Mod (.blt .int (.cons (.bin .Add (.bin .Add (.bin .Mult (.var 7) (.lit (.int 16807))) (.bin .Mult (.lit (.int 7)) (.var 6))) (.lit (.int 1))) .nil)) (.lit (.int 2147483647))))
abbrev law_digits_b6_s1 : S := (.app (.var 3) (.bin .Mod (.blt .int (.cons (.bin .FloorDiv (.var 7) (.lit (.int 997))) .nil)) (.lit (.int 1000))))
def law_digits_b6 : Ss := (.cons law_digits_b6_s0 (.cons law_digits_b6_s1 .nil))
abbrev law_digits_b5_s0 : S := (.asg [7] false (.bin .Mod (.blt .int (.cons (.bin .Add (.bin .Add (.bin .Mult (.var 5) (.lit (.int 48271))) (.bin .Mult (.var 4) (.lit (.int 69621)))) (.lit (.int 11))) .nil)) (.lit (.int 2147483647))))
abbrev law_digits_b5_s1 : S := (.forS [6] false (.rg1 (.lit (.int 12))) law_digits_b6)
def law_digits_b5 : Ss := (.cons law_digits_b5_s0 (.cons law_digits_b5_s1 .nil))
abbrev law_digits_b4_s0 : S := (.app (.var 3) (.bin .Mod (.blt .int (.cons (.var 5) .nil)) (.lit (.int 1000))))
abbrev law_digits_b4_s1 : S := (.asg [5] false (.bin .FloorDiv (.var 5) (.lit (.int 1000))))
def law_digits_b4 : Ss := (.cons law_digits_b4_s0 (.cons law_digits_b4_s1 .nil))
abbrev law_digits_b3_s0 : S := (.ifs (.cmp .Gt (.var 5) (.lit (.int 0))) law_digits_b4 .nil)
def law_digits_b3 : Ss := (.cons law_digits_b3_s0 .nil)
abbrev law_digits_b2_s0 : S := (.forS [6] false (.rg1 (.lit (.int 60))) law_digits_b3)
def law_digits_b2 : Ss := (.cons law_digits_b2_s0 .nil)
abbrev law_digits_b1_s0 : S := (.asg [5] false (.bin .Sub (.lit (.int 1)) (.bin .Mult (.lit (.int 2)) (.var 5))))
def law_digits_b1 : Ss := (.cons law_digits_b1_s0 .nil)
abbrev law_digits_b0_s0 : S := (.asg [5] false (.call 20 (.cons (.var 0) (.cons (.var 4) .nil))))
abbrev law_digits_b0_s1 : S := (.ifs (.cmp .Lt (.var 5) (.lit (.int 0))) law_digits_b1 .nil)
abbrev law_digits_b0_s2 : S := (.ifs (.cmp .GtE (.var 5) (.bin .Pow (.lit (.int 10)) (.lit (.int 18)))) law_digits_b2 law_digits_b5)
def law_digits_b0 : Ss := (.cons law_digits_b0_s0 (.cons law_digits_b0_s1 (.cons law_digits_b0_s2 .nil)))
abbrev law_digits_s0 : S := (.asg [3] false (.lstM .nil))
abbrev law_digits_s1 : S := (.forS [4] false (.rg2 (.var 1) (.var 2)) law_digits_b0)
abbrev law_digits_s2 : S := (.frz 3)
abbrev law_digits_s3 : S := (.ret (.var 3))
def f_law_digits : FD := ⟨3, 8, true, (.cons law_digits_s0 (.cons law_digits_s1 (.cons law_digits_s2 (.cons law_digits_s3 .nil))))⟩
def n_law_digits : List Str := ["_law_script", "_law_first", "_law_last", "_law_digits_here", "_law_k", "_law_cell_here", "_law_turn", "_law_seed"]
abbrev law_draw_b0_s0 : S := (.ret (.bin .Mod (.blt .int (.cons (.idx (.idx (.var 0) (.lit (.int 0))) (.var 2)) .nil)) (.var 1)))
def law_draw_b0 : Ss := (.cons law_draw_b0_s0 .nil)
abbrev law_draw_s0 : S := (.asg [2] false (.idx (.var 0) (.lit (.int 1))))
abbrev law_draw_s1 : S := (.set (.var 0) (.lit (.int 1)) (.bin .Add (.var 2) (.lit (.int 1))))
abbrev law_draw_s2 : S := (.ifs (.cmp .Lt (.var 2) (.blt .len (.cons (.idx (.var 0) (.lit (.int 0))) .nil))) law_draw_b0 .nil)
abbrev law_draw_s3 : S := (.ret (.lit (.int 0)))
def f_law_draw : FD := ⟨2, 3, false, (.cons law_draw_s0 (.cons law_draw_s1 (.cons law_draw_s2 (.cons law_draw_s3 .nil))))⟩
def n_law_draw : List Str := ["_law_box", "_law_many", "_law_at"]
abbrev law_pick_s0 : S := (.ret (.idx (.var 1) (.bin .Mod (.blt .int (.cons (.call 22 (.cons (.var 0) (.cons (.lit (.int 900)) .nil))) .nil)) (.blt .len (.cons (.var 1) .nil)))))
def f_law_pick : FD := ⟨2, 2, false, (.cons law_pick_s0 .nil)⟩
def n_law_pick : List Str := ["_law_box", "_law_things"]
abbrev law_parents_b1_s0 : S := (.ret (.tup .nil))
def law_parents_b1 : Ss := (.cons law_parents_b1_s0 .nil)
abbrev law_parents_b0_s0 : S := (.asg [3] false (.call 22 (.cons (.var 0) (.cons (.bin .Sub (.blt .len (.cons (.var 2) .nil)) (.lit (.int 1))) .nil))))
abbrev law_parents_b0_s1 : S := (.ret (.blt .tuple (.cons (.slc (.var 2) (.some (.var 3)) (.some (.bin .Add (.var 3) (.lit (.int 2))))) .nil)))
def law_parents_b0 : Ss := (.cons law_parents_b0_s0 (.cons law_parents_b0_s1 .nil))
abbrev law_parents_s0 : S := (.ifs (.cmp .Gt (.blt .len (.cons (.var 2) .nil)) (.lit (.int 2))) law_parents_b0 .nil)
abbrev law_parents_s1 : S := (.ifs (.cmp .Eq (.call 22 (.cons (.var 0) (.cons (.lit (.int 6)) .nil))) (.lit (.int 0))) law_parents_b1 .nil)
abbrev law_parents_s2 : S := (.asg [4] false (.call 22 (.cons (.var 0) (.cons (.var 1) .nil))))
abbrev law_parents_s3 : S := (.asg [5] false (.call 22 (.cons (.var 0) (.cons (.var 1) .nil))))
abbrev law_parents_s4 : S := (.ret (.blt .tuple (.cons (.sset (.lst (.cons (.var 4) (.cons (.var 5) .nil)))) .nil)))
def f_law_parents : FD := ⟨3, 6, false, (.cons law_parents_s0 (.cons law_parents_s1 (.cons law_parents_s2 (.cons law_parents_s3 (.cons law_parents_s4 .nil)))))⟩
def n_law_parents : List Str := ["_law_box", "_law_k", "_law_ends", "_law_at", "_law_one", "_law_other"]
abbrev law_history_b3_s0 : S := (.asg [6] false (.call 24 (.cons (.var 0) (.cons (.var 5) (.cons (.var 4) .nil)))))
def law_history_b3 : Ss := (.cons law_history_b3_s0 .nil)
abbrev law_history_b2_s0 : S := (.ifs (.cmp .Gt (.var 5) (.lit (.int 0))) law_history_b3 .nil)
def law_history_b2 : Ss := (.cons law_history_b2_s0 .nil)
abbrev law_history_b1_s0 : S := (.asg [6] false (.blt .tuple (.cons (.var 4) .nil)))
def law_history_b1 : Ss := (.cons law_history_b1_s0 .nil)
abbrev law_history_b0_s0 : S := (.asg [6] false (.tup .nil))
abbrev law_history_b0_s1 : S := (.ifs (.cmp .Eq (.var 5) (.bin .Sub (.var 2) (.lit (.int 1)))) law_history_b1 law_history_b2)
abbrev law_history_b0_s2 : S := (.asg [4] false (.bin .Add (.lc 0 [7] false (.e (.var 4)) (.some (.cmp .NotIn (.var 7) (.var 6))) (.var 7)) (.lst (.cons (.var 5) .nil))))
abbrev law_history_b0_s3 : S := (.app (.var 3) (.tup (.cons (.bin .Add (.lit (.str "v")) (.idx (.lit (.str "abcdefghijklmnopqrstuvwx")) (.var 5))) (.cons (.var 6) .nil))))
def law_history_b0 : Ss := (.cons law_history_b0_s0 (.cons law_history_b0_s1 (.cons law_history_b0_s2 (.cons law_history_b0_s3 .nil))))
abbrev law_history_s0 : S := (.asg [2] false (.bin .Add (.lit (.int 1)) (.call 22 (.cons (.var 0) (.cons (.var 1) .nil)))))
abbrev law_history_s1 : S := (.asg [3] false (.lstM .nil))
abbrev law_history_s2 : S := (.asg [4] false (.lst .nil))
abbrev law_history_s3 : S := (.forS [5] false (.rg1 (.var 2)) law_history_b0)
abbrev law_history_s4 : S := (.ret (.tup (.cons (.lit (.str "history")) (.cons (.blt .tuple (.cons (.var 3) .nil)) .nil))))
def f_law_history : FD := ⟨2, 8, true, (.cons law_history_s0 (.cons law_history_s1 (.cons law_history_s2 (.cons law_history_s3 (.cons law_history_s4 .nil)))))⟩
def n_law_history : List Str := ["_law_box", "_law_most", "_law_many", "_law_makes", "_law_ends", "_law_k", "_law_parents_here", "_law_end"]
abbrev law_above_b1_s0 : S := (.asg [2] false (.bin .Add (.var 2) (.lc 0 [4] false (.e (.idx (.idx (.idx (.var 0) (.lit (.int 1))) (.var 3)) (.lit (.int 1)))) (.some (.cmp .NotIn (.var 4) (.var 2))) (.var 4))))
def law_above_b1 : Ss := (.cons law_above_b1_s0 .nil)
abbrev law_above_b0_s0 : S := (.ifs (.cmp .In (.var 3) (.var 2)) law_above_b1 .nil)
def law_above_b0 : Ss := (.cons law_above_b0_s0 .nil)
abbrev law_above_s0 : S := (.asg [2] false (.lst (.cons (.var 1) .nil)))
abbrev law_above_s1 : S := (.forS [3] false (.rgd (.var 1) (.neg (.lit (.int 1)))) law_above_b0)
abbrev law_above_s2 : S := (.ret (.var 2))
def f_law_above : FD := ⟨2, 5, false, (.cons law_above_s0 (.cons law_above_s1 (.cons law_above_s2 .nil)))⟩
def n_law_above : List Str := ["_law_history_here", "_law_make", "_law_found", "_law_k", "_law_parent"]
abbrev law_breaks_s0 : S := (.ret (.cmp .In (.var 1) (.call 26 (.cons (.var 0) (.cons (.var 2) .nil)))))
def f_law_breaks : FD := ⟨3, 3, false, (.cons law_breaks_s0 .nil)⟩
def n_law_breaks : List Str := ["_law_history_here", "_law_candidate", "_law_make"]
abbrev law_skips_s0 : S := (.ret (.blt .tuple (.cons (.lc 0 [2] false (.rg1 (.blt .len (.cons (.idx (.var 1) (.lit (.int 1))) .nil))) (.some (.cmp .Eq (.call 22 (.cons (.var 0) (.cons (.lit (.int 7)) .nil))) (.lit (.int 0)))) (.var 2)) .nil)))
def f_law_skips : FD := ⟨2, 3, false, (.cons law_skips_s0 .nil)⟩
def n_law_skips : List Str := ["_law_box", "_law_history_here", "_law_make"]
abbrev law_count_s0 : S := (.ret (.blt .len (.cons (.lc 0 [3, 4] true (.e (.var 0)) (.some (.and (.cmp .Eq (.var 3) (.var 1)) (.one (.cmp .Eq (.var 4) (.var 2))))) (.lit (.int 1))) .nil)))
def f_law_count : FD := ⟨3, 5, false, (.cons law_count_s0 .nil)⟩
def n_law_count : List Str := ["_law_answers", "_law_kind", "_law_make", "_law_one", "_law_index"]
abbrev law_fits_b2_s0 : S := (.ret (.lit (.bool false)))
def law_fits_b2 : Ss := (.cons law_fits_b2_s0 .nil)
abbrev law_fits_b1_s0 : S := (.ret (.lit (.bool false)))
def law_fits_b1 : Ss := (.cons law_fits_b1_s0 .nil)
abbrev law_fits_b0_s0 : S := (.asg [6] false (.call 29 (.cons (.var 1) (.cons (.lit (.str "works")) (.cons (.var 5) .nil)))))
abbrev law_fits_b0_s1 : S := (.asg [7] false (.call 29 (.cons (.var 1) (.cons (.lit (.str "broken")) (.cons (.var 5) .nil)))))
abbrev law_fits_b0_s2 : S := (.ifs (.and (.call 27 (.cons (.var 0) (.cons (.var 4) (.cons (.var 5) .nil)))) (.one (.cmp .Gt (.var 6) (.var 2)))) law_fits_b1 .nil)
abbrev law_fits_b0_s3 : S := (.ifs (.and (.nt (.call 27 (.cons (.var 0) (.cons (.var 4) (.cons (.var 5) .nil))))) (.one (.cmp .Gt (.var 7) (.idx (.lst (.cons (.var 2) (.cons (.lit (.int 0)) .nil))) (.blt .int (.cons (.cmp .Eq (.var 3) (.lit (.str "one"))) .nil)))))) law_fits_b2 .nil)
def law_fits_b0 : Ss := (.cons law_fits_b0_s0 (.cons law_fits_b0_s1 (.cons law_fits_b0_s2 (.cons law_fits_b0_s3 .nil))))
abbrev law_fits_s0 : S := (.forS [5] false (.rg1 (.blt .len (.cons (.idx (.var 0) (.lit (.int 1))) .nil))) law_fits_b0)
abbrev law_fits_s1 : S := (.ret (.lit (.bool true)))
def f_law_fits : FD := ⟨5, 8, false, (.cons law_fits_s0 (.cons law_fits_s1 .nil))⟩
def n_law_fits : List Str := ["_law_history_here", "_law_answers", "_law_k", "_law_rule", "_law_candidate", "_law_make", "_law_works", "_law_broken"]
abbrev law_can_be_s0 : S := (.ret (.blt .tuple (.cons (.lc 0 [4] false (.rg1 (.blt .len (.cons (.idx (.var 0) (.lit (.int 1))) .nil))) (.some (.call 30 (.cons (.var 0) (.cons (.var 1) (.cons (.var 2) (.cons (.var 3) (.cons (.var 4) .nil))))))) (.var 4)) .nil)))
def f_law_can_be : FD := ⟨4, 5, false, (.cons law_can_be_s0 .nil)⟩
def n_law_can_be : List Str := ["_law_history_here", "_law_answers", "_law_k", "_law_rule", "_law_one"]
abbrev law_classes_b2_s0 : S := (.app (.idx (.idx (.var 6) (.lit (.int 0))) (.lit (.int 1))) (.var 3))
def law_classes_b2 : Ss := (.cons law_classes_b2_s0 .nil)
abbrev law_classes_b1_s0 : S := (.app (.var 2) (.lsw (.cons (.var 4) (.cons (.lstM (.cons (.var 3) .nil)) .nil))))
def law_classes_b1 : Ss := (.cons law_classes_b1_s0 .nil)
abbrev law_classes_b0_s0 : S := (.asg [4] false (.lc 0 [5] false (.rg1 (.blt .len (.cons (.idx (.var 0) (.lit (.int 1))) .nil))) (.some (.cmp .NotIn (.var 5) (.var 1))) (.call 27 (.cons (.var 0) (.cons (.var 3) (.cons (.var 5) .nil))))))
abbrev law_classes_b0_s1 : S := (.asg [6] false (.lc 2 [7] false (.e (.var 2)) (.some (.cmp .Eq (.idx (.var 7) (.lit (.int 0))) (.var 4))) (.var 7)))
abbrev law_classes_b0_s2 : S := (.ifs (.cmp .Eq (.var 6) (.lst .nil)) law_classes_b1 law_classes_b2)
def law_classes_b0 : Ss := (.cons law_classes_b0_s0 (.cons law_classes_b0_s1 (.cons law_classes_b0_s2 .nil)))
abbrev law_classes_s0 : S := (.asg [2] false (.lsw .nil))
abbrev law_classes_s1 : S := (.forS [3] false (.rg1 (.blt .len (.cons (.idx (.var 0) (.lit (.int 1))) .nil))) law_classes_b0)
abbrev law_classes_s2 : S := (.ret (.lc 0 [7] false (.e (.var 2)) .none (.blt .tuple (.cons (.idx (.var 7) (.lit (.int 1))) .nil))))
def f_law_classes : FD := ⟨2, 8, true, (.cons law_classes_s0 (.cons law_classes_s1 (.cons law_classes_s2 .nil)))⟩
def n_law_classes : List Str := ["_law_history_here", "_law_skipped", "_law_rows", "_law_one", "_law_row", "_law_make", "_law_homes", "_law_part"]
abbrev law_times_s0 : S := (.ret (.idx (.lst (.cons (.bin .Add (.bin .Mult (.lit (.int 2)) (.var 0)) (.lit (.int 1))) (.cons (.bin .Add (.var 0) (.lit (.int 1))) .nil))) (.blt .int (.cons (.cmp .Eq (.var 1) (.lit (.str "one"))) .nil))))
def f_law_times : FD := ⟨2, 2, false, (.cons law_times_s0 .nil)⟩
def n_law_times : List Str := ["_law_k", "_law_rule"]
abbrev law_next_answer_b1_s0 : S := (.ret (.lst (.cons (.idx (.var 3) (.var 5)) (.cons (.var 2) .nil))))
def law_next_answer_b1 : Ss := (.cons law_next_answer_b1_s0 .nil)
abbrev law_next_answer_b0_s0 : S := (.ret (.lst (.cons (.var 8) (.cons (.var 2) .nil))))
def law_next_answer_b0 : Ss := (.cons law_next_answer_b0_s0 .nil)
abbrev law_next_answer_s0 : S := (.asg [8] false (.call 19 (.cons (.var 4) (.cons (.var 5) (.cons (.var 6) (.cons (.var 7) .nil))))))
abbrev law_next_answer_s1 : S := (.ifs (.cmp .NotEq (.var 8) (.lit (.str ""))) law_next_answer_b0 .nil)
abbrev law_next_answer_s2 : S := (.ifs (.cmp .In (.var 5) (.var 3)) law_next_answer_b1 .nil)
abbrev law_next_answer_s3 : S := (.asg [9] false (.lc 0 [10] false (.e (.lst (.cons (.lit (.str "broken")) (.cons (.lit (.str "works")) .nil)))) .none (.call 8 (.cons (.var 0) (.cons (.var 1) (.cons (.var 2) (.cons (.tup (.cons (.var 10) (.cons (.var 5) .nil))) .nil)))))))
abbrev law_next_answer_s4 : S := (.asg [11] false (.lc 0 [12] false (.e (.var 9)) .none (.call 15 (.cons (.var 0) (.cons (.var 1) (.cons (.var 12) .nil))))))
abbrev law_next_answer_s5 : S := (.asg [13] false (.lc 0 [12] false (.e (.var 9)) .none (.blt .len (.cons (.lc 0 [14] false (.e (.var 12)) (.some (.cmp .GtE (.var 14) (.lit (.int 0)))) (.lit (.int 1))) .nil))))
abbrev law_next_answer_s6 : S := (.asg [15] false (.blt .int (.cons (.cmp .Gt (.tup (.cons (.idx (.var 11) (.lit (.int 1))) (.cons (.idx (.var 13) (.lit (.int 1))) .nil))) (.tup (.cons (.idx (.var 11) (.lit (.int 0))) (.cons (.idx (.var 13) (.lit (.int 0))) .nil)))) .nil)))
abbrev law_next_answer_s7 : S := (.set (.var 3) (.var 5) (.idx (.lst (.cons (.lit (.str "broken")) (.cons (.lit (.str "works")) .nil))) (.var 15)))
abbrev law_next_answer_s8 : S := (.ret (.lst (.cons (.idx (.var 3) (.var 5)) (.cons (.idx (.var 9) (.var 15)) .nil))))
def f_law_next_answer : FD := ⟨8, 16, false, (.cons law_next_answer_s0 (.cons law_next_answer_s1 (.cons law_next_answer_s2 (.cons law_next_answer_s3 (.cons law_next_answer_s4 (.cons law_next_answer_s5 (.cons law_next_answer_s6 (.cons law_next_answer_s7 (.cons law_next_answer_s8 .nil)))))))))⟩
def n_law_next_answer : List Str := ["_law_history_here", "_law_skipped", "_law_state", "_law_told", "_law_answers", "_law_make", "_law_k", "_law_rule", "_law_word", "_law_behind", "_law_kind", "_law_needs", "_law_one", "_law_alive", "_law_left", "_law_worse"]
abbrev law_classes_left_s0 : S := (.asg [5] false (.call 31 (.cons (.var 0) (.cons (.var 2) (.cons (.var 3) (.cons (.var 4) .nil))))))
abbrev law_classes_left_s1 : S := (.ret (.blt .len (.cons (.lc 0 [6] false (.e (.call 32 (.cons (.var 0) (.cons (.var 1) .nil)))) (.some (.cmp .Gt (.blt .len (.cons (.lc 0 [7] false (.e (.var 6)) (.some (.cmp .In (.var 7) (.var 5))) (.var 7)) .nil)) (.lit (.int 0)))) (.var 6)) .nil)))
def f_law_classes_left : FD := ⟨5, 8, false, (.cons law_classes_left_s0 (.cons law_classes_left_s1 .nil))⟩
def n_law_classes_left : List Str := ["_law_history_here", "_law_skipped", "_law_answers", "_law_k", "_law_rule", "_law_left", "_law_row", "_law_one"]
abbrev law_b2_s0 : S := (.asg [5] false (.call 23 (.cons (.var 1) (.cons (.var 4) .nil))))
def law_b2 : Ss := (.cons law_b2_s0 .nil)
abbrev law_b1_s0 : S := (.ifs (.or (.cmp .Eq (.var 12) (.lit (.int 0))) (.one (.cmp .Eq (.call 22 (.cons (.var 1) (.cons (.lit (.int 3)) .nil))) (.lit (.int 0))))) law_b2 .nil)
abbrev law_b1_s1 : S := (.asg [13, 9] true (.call 34 (.cons (.var 2) (.cons (.var 3) (.cons (.var 9) (.cons (.var 10) (.cons (.var 11) (.cons (.var 5) (.cons (.var 6) (.cons (.var 7) .nil))))))))))
abbrev law_b1_s2 : S := (.asg [11] false (.bin .Add (.var 11) (.tup (.cons (.tup (.cons (.var 13) (.cons (.var 5) .nil))) .nil))))
def law_b1 : Ss := (.cons law_b1_s0 (.cons law_b1_s1 (.cons law_b1_s2 .nil)))
abbrev law_b0_s0 : S := (.ret (.lit (.bool false)))
def law_b0 : Ss := (.cons law_b0_s0 .nil)
abbrev law_s0 : S := (.asg [1] false (.lstM (.cons (.call 21 (.cons (.var 0) (.cons (.lit (.int 0)) (.cons (.lit (.int 63)) .nil)))) (.cons (.lit (.int 0)) .nil))))
abbrev law_s1 : S := (.asg [2] false (.call 25 (.cons (.var 1) (.cons (.lit (.int 7)) .nil))))
abbrev law_s2 : S := (.asg [3] false (.call 28 (.cons (.var 1) (.cons (.var 2) .nil))))
abbrev law_s3 : S := (.asg [4] false (.lc 0 [5] false (.rg1 (.blt .len (.cons (.idx (.var 2) (.lit (.int 1))) .nil))) (.some (.cmp .NotIn (.var 5) (.var 3))) (.var 5)))
abbrev law_s4 : S := (.asg [6] false (.call 22 (.cons (.var 1) (.cons (.lit (.int 4)) .nil))))
abbrev law_s5 : S := (.asg [7] false (.call 23 (.cons (.var 1) (.cons (.lst (.cons (.lit (.str "two")) (.cons (.lit (.str "one")) .nil))) .nil))))
abbrev law_s6 : S := (.asg [8] false (.bin .Mult (.call 33 (.cons (.var 6) (.cons (.var 7) .nil))) (.call 16 (.cons (.var 2) (.cons (.var 3) (.cons (.lit (.int 0)) .nil))))))
abbrev law_s7 : S := (.ifs (.cmp .NotEq (.call 18 (.cons (.var 2) (.cons (.var 3) (.cons (.var 6) (.cons (.var 7) .nil))))) (.var 8)) law_b0 .nil)
abbrev law_s8 : S := (.asg [9] false (.call 5 (.cons (.var 2) (.cons (.var 3) (.cons (.lit (.int 0)) .nil)))))
abbrev law_s9 : S := (.asg [10] false .dnewI)
abbrev law_s10 : S := (.asg [11] false (.tup .nil))
abbrev law_s11 : S := (.asg [5] false (.lit (.int 0)))
abbrev law_s12 : S := (.forS [12] false (.rg1 (.bin .Sub (.var 8) (.lit (.int 1)))) law_b1)
abbrev law_s13 : S := (.ret (.or (.cmp .Eq (.var 8) (.lit (.int 0))) (.one (.cmp .Gt (.call 35 (.cons (.var 2) (.cons (.var 3) (.cons (.var 11) (.cons (.var 6) (.cons (.var 7) .nil)))))) (.lit (.int 1))))))
def f_law : FD := ⟨1, 14, true, (.cons law_s0 (.cons law_s1 (.cons law_s2 (.cons law_s3 (.cons law_s4 (.cons law_s5 (.cons law_s6 (.cons law_s7 (.cons law_s8 (.cons law_s9 (.cons law_s10 (.cons law_s11 (.cons law_s12 (.cons law_s13 .nil))))))))))))))⟩
def n_law : List Str := ["_law_script", "_law_box", "_law_history_here", "_law_skipped", "_law_makes", "_law_make", "_law_k", "_law_rule", "_law_many", "_law_state", "_law_told", "_law_answers", "_law_turn", "_law_word"]
def tab : List FD := [f_ancestors, f_testable, f_classes, f_broken_by, f_tests, f_start, f_lowered, f_against_row, f_after, f_check_size, f_rows_of, f_ones_in, f_is_useful, f_both_after, f_value, f_fewest_from, f_fewest, f_counts_of, f_fewest_by_make, f_held_back, f_law_cell, f_law_digits, f_law_draw, f_law_pick, f_law_parents, f_law_history, f_law_above, f_law_breaks, f_law_skips, f_law_count, f_law_fits, f_law_can_be, f_law_classes, f_law_times, f_law_next_answer, f_law_classes_left, f_law]
end Ev

namespace Ev
open PySem
/-- a box of digits -/
def IsBox (o : Ob) : Prop := ∃ (ds : List Int) (k : Nat), o = .lst [.list (ds.map .int), .int k]

theorem cell_ok (n b : Nat) (h : Hq) (ns : List Int) (k : Nat) : ∃ v : Int, callN tab (n + 1) b 20 [.d (.list (ns.map .int)), .d (.int k)] h = .ok (.d (.int v)) h := by
  rw [call_of (fd := f_law_cell) _ _ rfl rfl]
  by_cases hk : k < ns.length
  · exact ⟨ns[k], by simp [f_law_cell, law_cell_b0, hk, atZ_nat]⟩
  · exact ⟨0, by simp [f_law_cell, law_cell_b0, hk, atZ_nat]⟩

theorem draw_ok (n b : Nat) {bx : Ob} (t : Hq) {m : Int} (hb : IsBox bx) (hm : 0 < m) : ∃ (v : Int) (bx' : Ob), 0 ≤ v ∧ v < m ∧ IsBox bx' ∧ callN tab (n + 1) b 22 [.l 0, .d (.int m)] (bx :: t) = .ok (.d (.int v)) (bx' :: t) := by
  obtain ⟨ds, k, rfl⟩ := hb
  rw [call_of (fd := f_law_draw) _ _ rfl rfl]
  by_cases hk : k < ds.length
  · refine ⟨ds[k].fmod m, .lst [.list (ds.map .int), .int ((k + 1 : Nat) : Int)], Int.fmod_nonneg_of_pos _ hm, Int.fmod_lt_of_pos _ hm, ⟨ds, k + 1, rfl⟩, ?_⟩
    simp [f_law_draw, law_draw_b0, hk, mod_i (Int.ne_of_gt hm), atZ_nat]
  · refine ⟨0, .lst [.list (ds.map .int), .int ((k + 1 : Nat) : Int)], Int.le_refl _, hm, ⟨ds, k + 1, rfl⟩, ?_⟩
    simp [f_law_draw, law_draw_b0, hk, mod_i (Int.ne_of_gt hm), atZ_nat]

def DgE (s : W) (h0 : Hq) (m : Nat) (env : Vars) (h : Hq) (c : Option W → Prop) (sd : Option W → Prop) : Prop :=
  ∃ x1 x2 x3 x4 ds, env = [some s, some (.d (.int 0)), some (.d (.int 63)), some (.l h0.length), x1, x2, x3, x4] ∧ c x2 ∧ sd x4 ∧ h = h0 ++ [.lst (List.map PyData.int ds)] ∧ ds.length ≤ m ∧ ∃ k : Int, x1 = some (.d (.int k))
def isI (o : Option W) : Prop := ∃ i : Int, o = some (.d (.int i))

theorem digits_turnA (b : Nat) (C : CallF) (s : W) (h0 : Hq) (m : Nat) (hm : m < 900000) (env : Vars) (h : Hq) (i : DgE s h0 m env h isI fun _ => True) (j : Int) : ∃ env' h', evSs b C law_digits_b3 (env.set 6 (some (.d (.int j)))) h = .ok (.nx env') h' ∧ DgE s h0 (m + 1) env' h' isI fun _ => True := by
  obtain ⟨x1, x2, x3, x4, ds, rfl, ⟨c, rfl⟩, -, rfl, hl, k, rfl⟩ := i
  by_cases hc : 0 < c
  · refine ⟨[some s, some (.d (.int 0)), some (.d (.int 63)), some (.l h0.length), some (.d (.int k)), some (.d (.int (c.fdiv 1000))), some (.d (.int j)), x4], h0 ++ [.lst (List.map PyData.int (ds ++ [c.fmod 1000]))], ?_, _, _, _, _, _, rfl, ⟨_, rfl⟩, trivial, rfl, by simp; omega, _, rfl⟩
    simp [law_digits_b3, law_digits_b4, hc, recvL_o last_at, app_o last_at (show (List.map PyData.int ds).length < 1000000 by simp; omega)]
  · refine ⟨[some s, some (.d (.int 0)), some (.d (.int 63)), some (.l h0.length), some (.d (.int k)), some (.d (.int c)), some (.d (.int j)), x4], h0 ++ [.lst (List.map PyData.int ds)], ?_, _, _, _, _, _, rfl, ⟨_, rfl⟩, trivial, rfl, by omega, _, rfl⟩
    simp [law_digits_b3, law_digits_b4, hc]

theorem digits_turnB (b : Nat) (C : CallF) (s : W) (h0 : Hq) (m : Nat) (hm : m < 900000) (env : Vars) (h : Hq) (i : DgE s h0 m env h isI isI) (j : Int) : ∃ env' h', evSs b C law_digits_b6 (env.set 6 (some (.d (.int j)))) h = .ok (.nx env') h' ∧ DgE s h0 (m + 1) env' h' isI isI := by
  obtain ⟨x1, x2, x3, x4, ds, rfl, ⟨c, rfl⟩, ⟨e, rfl⟩, rfl, hl, k, rfl⟩ := i
  refine ⟨[some s, some (.d (.int 0)), some (.d (.int 63)), some (.l h0.length), some (.d (.int k)), some (.d (.int c)), some (.d (.int j)), some (.d (.int ((e * 16807 + 7 * j + 1).fmod 2147483647)))], h0 ++ [.lst (List.map PyData.int (ds ++ [(((e * 16807 + 7 * j + 1).fmod 2147483647).fdiv 997).fmod 1000]))], ?_, _, _, _, _, _, rfl, ⟨_, rfl⟩, ⟨_, rfl⟩, rfl, by simp; omega, _, rfl⟩
  simp [law_digits_b6, recvL_o last_at, app_o last_at (show (List.map PyData.int ds).length < 1000000 by simp; omega)]

theorem digits_turn (b n : Nat) (ns : List Int) (h0 : Hq) (m : Nat) (hm : m < 800000) (env : Vars) (h : Hq) (i : ∃ x1 x2 x3 x4 ds, env = [some (.d (.list (ns.map .int))), some (.d (.int 0)), some (.d (.int 63)), some (.l h0.length), x1, x2, x3, x4] ∧ h = h0 ++ [.lst (List.map PyData.int ds)] ∧ ds.length ≤ m) (k : Nat) :
    ∃ env' h', evSs b (callN tab (n + 1)) law_digits_b0 (env.set 4 (some (.d (.int k)))) h = .ok (.nx env') h' ∧ ∃ x1 x2 x3 x4 ds, env' = [some (.d (.list (ns.map .int))), some (.d (.int 0)), some (.d (.int 63)), some (.l h0.length), x1, x2, x3, x4] ∧ h' = h0 ++ [.lst (List.map PyData.int ds)] ∧ ds.length ≤ m + 60 := by
  obtain ⟨x1, x2, x3, x4, ds, rfl, rfl, hl⟩ := i
  obtain ⟨v, hv⟩ := cell_ok n b (h0 ++ [.lst (List.map PyData.int ds)]) ns k
  -- the rest, by the cell's value made positive
  have rest : ∀ c : Int, ∃ env' h', evSs b (callN tab (n + 1)) (.cons (.ifs (.cmp .GtE (.var 5) (.bin .Pow (.lit (.int 10)) (.lit (.int 18)))) law_digits_b2 law_digits_b5) .nil) [some (.d (.list (ns.map .int))), some (.d (.int 0)), some (.d (.int 63)), some (.l h0.length), some (.d (.int k)), some (.d (.int c)), x3, x4] (h0 ++ [.lst (List.map PyData.int ds)]) = .ok (.nx env') h' ∧
      ∃ x1 x2 x3 x4 ds, env' = [some (.d (.list (ns.map .int))), some (.d (.int 0)), some (.d (.int 63)), some (.l h0.length), x1, x2, x3, x4] ∧ h' = h0 ++ [.lst (List.map PyData.int ds)] ∧ ds.length ≤ m + 60 := by
    intro c
    by_cases hc : (1000000000000000000 : Int) ≤ c
    · obtain ⟨env', h', e1, y1, y2, y3, y4, ds', rfl, -, -, rfl, hl', k', rfl⟩ := forGo_ok (f := fun w env h => match bindT [6] false w env with
        | some env => evSs b (callN tab (n + 1)) law_digits_b3 env h
        | none => .bad) (fun j env h => DgE (.d (.list (ns.map .int))) h0 (m + j) env h isI fun _ => True) (rangeUp 0 60) 0 [some (.d (.list (ns.map .int))), some (.d (.int 0)), some (.d (.int 63)), some (.l h0.length), some (.d (.int k)), some (.d (.int c)), x3, x4] (h0 ++ [.lst (List.map PyData.int ds)])
        ⟨_, _, _, _, ds, rfl, ⟨_, rfl⟩, trivial, rfl, by omega, _, rfl⟩ fun j w env h e i => by
          obtain ⟨rfl, hj⟩ := rangeUp_at e
          have := digits_turnA b (callN tab (n + 1)) _ h0 (m + (0 + j)) (by omega) env h i (0 + j)
          simpa [Nat.add_assoc] using this
      refine ⟨_, _, ?_, some (.d (.int k')), y2, y3, y4, ds', rfl, rfl, by simpa using hl'⟩
      simp [law_digits_b2, hc, s_for, rg_of]
      simp only [bind_1] at e1
      simp [e1]
    · obtain ⟨env', h', e1, y1, y2, y3, y4, ds', rfl, -, -, rfl, hl', k', rfl⟩ := forGo_ok (f := fun w env h => match bindT [6] false w env with
        | some env => evSs b (callN tab (n + 1)) law_digits_b6 env h
        | none => .bad) (fun j env h => DgE (.d (.list (ns.map .int))) h0 (m + j) env h isI isI) (rangeUp 0 12) 0 [some (.d (.list (ns.map .int))), some (.d (.int 0)), some (.d (.int 63)), some (.l h0.length), some (.d (.int k)), some (.d (.int c)), x3, some (.d (.int ((c * 48271 + k * 69621 + 11).fmod 2147483647)))] (h0 ++ [.lst (List.map PyData.int ds)])
        ⟨_, _, _, _, ds, rfl, ⟨_, rfl⟩, ⟨_, rfl⟩, rfl, by omega, _, rfl⟩ fun j w env h e i => by
          obtain ⟨rfl, hj⟩ := rangeUp_at e
          have := digits_turnB b (callN tab (n + 1)) _ h0 (m + (0 + j)) (by omega) env h i (0 + j)
          simpa [Nat.add_assoc] using this
      have hl2 : ds'.length ≤ m + 12 := by simpa using hl'
      refine ⟨_, _, ?_, some (.d (.int k')), y2, y3, y4, ds', rfl, rfl, by omega⟩
      have hd : decide ((1000000000000000000 : Int) ≤ c) = false := decide_eq_false hc
      simp only [s_cons, s_ifs, x_cmp, x_var, x_bin, x_lit, List.getElem?_cons_succ, List.getElem?_cons_zero, b_ok, op2_d, cmp_d, pow_18, liftO_s, ge_i, hd]
      clear hd hc
      simp [law_digits_b5, s_for, rg_of]
      simp only [bind_1] at e1
      simp [e1]
  by_cases hv0 : v < 0
  · obtain ⟨env', h', e1, e2⟩ := rest (1 - 2 * v)
    refine ⟨env', h', ?_, e2⟩
    rw [← e1]
    simp only [law_digits_b0, law_digits_b0_s0, law_digits_b0_s1, law_digits_b0_s2, law_digits_b1]
    simp [hv, hv0]
  · obtain ⟨env', h', e1, e2⟩ := rest v
    refine ⟨env', h', ?_, e2⟩
    rw [← e1]
    simp only [law_digits_b0, law_digits_b0_s0, law_digits_b0_s1, law_digits_b0_s2, law_digits_b1]
    simp [hv, hv0]

theorem digits_ok (n b : Nat) (h0 : Hq) (ns : List Int) : ∃ ds : List Int, callN tab (n + 2) b 21 [.d (.list (ns.map .int)), .d (.int 0), .d (.int 63)] h0 = .ok (.d (.list (ds.map .int))) h0 := by
  rw [call_of (fd := f_law_digits) _ _ rfl rfl]
  obtain ⟨env', h', e1, y1, y2, y3, y4, ds', rfl, rfl, -⟩ := forGo_ok (f := fun w env h => match bindT [4] false w env with
        | some env => evSs h0.length (callN tab (n + 1)) law_digits_b0 env h
        | none => .bad) (fun j env h => ∃ x1 x2 x3 x4 ds, env = [some (.d (.list (ns.map .int))), some (.d (.int 0)), some (.d (.int 63)), some (.l h0.length), x1, x2, x3, x4] ∧ h = h0 ++ [.lst (List.map PyData.int ds)] ∧ ds.length ≤ j * 60) (rangeUp 0 63) 0 
        [some (.d (.list (ns.map .int))), some (.d (.int 0)), some (.d (.int 63)), some (.l h0.length), none, none, none, none] (h0 ++ [.lst []])
        ⟨_, _, _, _, [], rfl, rfl, by simp⟩ fun j w env h e i => by
          obtain ⟨rfl, hj⟩ := rangeUp_at e
          have := digits_turn h0.length n ns h0 ((0 + j) * 60) (by omega) env h i j
          simpa [Nat.add_mul] using this
  refine ⟨ds', ?_⟩
  simp [f_law_digits, s_for, rg_of]
  simp only [bind_1] at e1
  simp [e1, evFrz]

end Ev

namespace Ev
open PySem
theorem pick_ok (n b : Nat) {bx : Ob} (t : Hq) (xs : List PyData) (hb : IsBox bx) (hx : xs ≠ []) : ∃ x ∈ xs, ∃ bx', IsBox bx' ∧ callN tab (n + 2) b 23 [.l 0, .d (.list xs)] (bx :: t) = .ok (.d x) (bx' :: t) := by
  obtain ⟨v, bx', v0, v1, hb', e⟩ := draw_ok n b t hb (m := 900) (by decide)
  have hl : (0 : Int) < xs.length := by
    have := List.length_pos_iff.mpr hx
    omega
  have q0 := Int.fmod_nonneg_of_pos v hl
  have q1 := Int.fmod_lt_of_pos v hl
  have q2 : (v.fmod xs.length).toNat < xs.length := by omega
  refine ⟨xs[(v.fmod xs.length).toNat], List.getElem_mem _, bx', hb', ?_⟩
  rw [call_of (fd := f_law_pick) _ _ rfl rfl]
  simp [f_law_pick, e, mod_i (Int.ne_of_gt hl), atZ_int q0, q2]

end Ev

namespace Ev
open PySem
structure Par (k : Int) (l : List Int) : Prop where
  rg : ∀ x ∈ l, 0 ≤ x ∧ x < k
  pw : l.Pairwise (· < ·)
theorem Par.sub {k : Int} {l l' : List Int} (p : Par k l) (s : l'.Sublist l) : Par k l' := ⟨fun x hx => p.rg x (s.subset hx), p.pw.sublist s⟩

def rowD (r : Str × List Int) : PyData := .tuple [.str r.1, .tuple (r.2.map .int)]
def histD (rows : List (Str × List Int)) : PyData := .tuple [.str "history", .tuple (rows.map rowD)]
structure Rows (rows : List (Str × List Int)) : Prop where
  par : ∀ (k : Nat) r, rows[k]? = some r → Par k r.2
theorem Rows.snoc {rows : List (Str × List Int)} {r : Str × List Int} (h : Rows rows) (p : Par rows.length r.2) : Rows (rows ++ [r]) := ⟨fun k q e => by
  by_cases hk : k < rows.length
  · rw [List.getElem?_append_left hk] at e; exact h.par k q e
  · rw [List.getElem?_append_right (by omega)] at e
    by_cases hk2 : k - rows.length = 0
    · rw [hk2] at e; cases e
      have : k = rows.length := by omega
      subst this; exact p
    · rw [List.getElem?_eq_none (by simp; omega)] at e; cases e⟩

theorem par_len : ∀ {k : Nat} {l : List Int}, Par k l → l.length ≤ k := by
  intro k
  induction k with
  | zero =>
    intro l p
    cases l with
    | nil => simp
    | cons x l => have := p.rg x List.mem_cons_self; omega
  | succ k ih =>
    intro l p
    have q : Par k (l.filter fun x : Int => decide (x < (k : Int))) := ⟨fun x hx => by
      have h1 := p.rg x (List.mem_filter.mp hx).1
      have h2 := (List.mem_filter.mp hx).2
      simp only [decide_eq_true_eq] at h2
      exact ⟨h1.1, h2⟩, p.pw.sublist List.filter_sublist⟩
    have r := ih q
    have w : ∀ {l : List Int}, l.Pairwise (· < ·) → (∀ x ∈ l, x ≤ (k : Int)) → l.length ≤ (l.filter fun x : Int => decide (x < (k : Int))).length + 1 := by
      intro l
      induction l with
      | nil => intro _ _; simp
      | cons x l ih =>
        intro pw hx
        rw [List.pairwise_cons] at pw
        by_cases hk : x < k
        · have hf : List.filter (fun x : Int => decide (x < (k : Int))) (x :: l) = x :: List.filter (fun x : Int => decide (x < (k : Int))) l := by simp [List.filter_cons, hk]
          rw [hf]
          have := ih pw.2 fun y hy => hx y (List.mem_cons_of_mem _ hy)
          simp only [List.length_cons]
          omega
        · have e : x = k := by have := hx x List.mem_cons_self; omega
          have nl : l = [] := by
            cases l with
            | nil => rfl
            | cons y l =>
              have h1 := pw.1 y List.mem_cons_self
              have h2 := hx y (by simp)
              omega
          subst nl
          simp
    have := w p.pw fun x hx => by have := p.rg x hx; omega
    omega

end Ev

namespace Ev
open PySem
theorem parents_ok (n b : Nat) {bx : Ob} (t : Hq) {k : Int} {ends : List Int} (hb : IsBox bx) (hk : 0 < k) (he : Par k ends) : ∃ ps bx', Par k ps ∧ IsBox bx' ∧ callN tab (n + 2) b 24 [.l 0, .d (.int k), .d (.list (ends.map .int))] (bx :: t) = .ok (.d (.tuple (ps.map .int))) (bx' :: t) := by
  rw [call_of (fd := f_law_parents) _ _ rfl rfl]
  by_cases hl : 2 < ends.length
  · have hl' : (2 : Int) < ends.length := by omega
    obtain ⟨v, bx', v0, v1, hb', e⟩ := draw_ok n b t hb (m := (ends.length : Int) - 1) (by omega)
    refine ⟨cutL ends (some v) (some (v + 2)), bx', he.sub cutL_sub, hb', ?_⟩
    simp [f_law_parents, law_parents_b0, hl', e, cutL_map]
  · have hl' : ¬ (2 : Int) < ends.length := by omega
    obtain ⟨v, bx1, v0, v1, hb1, e⟩ := draw_ok n b t hb (m := 6) (by decide)
    by_cases hv : v = 0
    · refine ⟨[], bx1, ⟨by simp, .nil⟩, hb1, ?_⟩
      simp [f_law_parents, law_parents_b1, hl', e, hv]
    · obtain ⟨v1, bx2, v10, v11, hb2, e1⟩ := draw_ok n b t hb1 hk
      obtain ⟨v2, bx3, v20, v21, hb3, e2⟩ := draw_ok n b t hb2 hk
      refine ⟨sortU [v1, v2], bx3, ?_, hb3, ?_⟩
      · simp only [sortU, List.foldr, insU]
        split
        · exact ⟨by simp; omega, by simpa using by assumption⟩
        · split
          · exact ⟨by simp; omega, by simp⟩
          · exact ⟨by simp; omega, by simp; omega⟩
      · simp [f_law_parents, hl', e, hv, e1, e2, listInts, intsOf]

theorem letter_ok (h : Hq) {k : Int} (h0 : 0 ≤ k) (h1 : k < 24) : ∃ s : Str, s.length = 1 ∧ evIdx h (.d (.str "abcdefghijklmnopqrstuvwx")) (.d (.int k)) = .ok (.d (.str s)) h := by
  have hl : ("abcdefghijklmnopqrstuvwx" : Str).length ≤ SZ := by decide +kernel
  have hl2 : ("abcdefghijklmnopqrstuvwx" : Str).cps.toList.length = 24 := by decide +kernel
  have hk : k.toNat < ("abcdefghijklmnopqrstuvwx" : Str).cps.toList.length := by omega
  refine ⟨⟨#[("abcdefghijklmnopqrstuvwx" : Str).cps.toList[k.toNat]]⟩, rfl, ?_⟩
  simp only [evIdx, if_pos hl, atZ_int h0, List.getElem?_eq_getElem hk]
end Ev
namespace Ev
open PySem
def HiE (most many : Int) (t : Hq) (m : Nat) (env : Vars) (h : Hq) : Prop :=
  ∃ bx ends rows x1 x2 x3, IsBox bx ∧ env = [some (.l 0), some (.d (.int most)), some (.d (.int many)), some (.l (t.length + 1)), some (.d (.list (List.map PyData.int ends))), x1, x2, x3] ∧ h = bx :: (t ++ [.lst (List.map rowD rows)]) ∧ rows.length = m ∧ Rows rows ∧ Par m ends

theorem par_step {m : Nat} {ends ps : List Int} (h : Par m ends) : Par (m + 1 : Nat) ((ends.filter fun x => !decide (x ∈ ps)) ++ [(m : Int)]) := by
  refine ⟨fun x hx => ?_, ?_⟩
  · rcases List.mem_append.mp hx with hx | hx
    · have := h.rg x (List.mem_filter.mp hx).1
      omega
    · simp only [List.mem_singleton] at hx
      omega
  · rw [List.pairwise_append]
    refine ⟨h.pw.sublist List.filter_sublist, by simp, fun x hx y hy => ?_⟩
    have := h.rg x (List.mem_filter.mp hx).1
    simp only [List.mem_singleton] at hy
    omega

theorem history_tail (n b : Nat) {most many : Int} {t : Hq} {m : Nat} (hm : m < 24) {bx : Ob} {ends ps : List Int} {rows : List (Str × List Int)} {x3 : Option W} (hb : IsBox bx) (hr : rows.length = m) (hR : Rows rows) (hP : Par m ends) (hp : Par m ps) (hl : ends.length ≤ 100) (hpl : ps.length ≤ 100) :
    ∃ env' h', evSs b (callN tab (n + 2)) (.cons (.asg [4] false (.bin .Add (.lc 0 [7] false (.e (.var 4)) (.some (.cmp .NotIn (.var 7) (.var 6))) (.var 7)) (.lst (.cons (.var 5) .nil)))) (.cons (.app (.var 3) (.tup (.cons (.bin .Add (.lit (.str "v")) (.idx (.lit (.str "abcdefghijklmnopqrstuvwx")) (.var 5))) (.cons (.var 6) .nil)))) .nil))
      [some (.l 0), some (.d (.int most)), some (.d (.int many)), some (.l (t.length + 1)), some (.d (.list (List.map PyData.int ends))), some (.d (.int m)), some (.d (.tuple (List.map PyData.int ps))), x3] (bx :: (t ++ [.lst (List.map rowD rows)])) = .ok (.nx env') h' ∧ HiE most many t (m + 1) env' h' := by
  obtain ⟨s, hs, es⟩ := letter_ok (bx :: (t ++ [.lst (List.map rowD rows)])) (k := m) (by omega) (by omega)
  refine ⟨_, _, ?_, bx, (ends.filter fun x => !decide (x ∈ ps)) ++ [(m : Int)], rows ++ [("v" ++ s, ps)], some (.d (.int m)), some (.d (.tuple (List.map PyData.int ps))), x3, hb, rfl, rfl, by simp [hr], hR.snoc (by rw [hr]; exact hp), par_step hP⟩
  have h1 : ("v" : Str).length + s.length ≤ 1000000 := by rw [hs]; decide +kernel
  have h2 : (List.map rowD rows).length < 1000000 := by simp; omega
  have h3 : ((ends.filter fun x => !decide (x ∈ ps)).map PyData.int).length + [PyData.int m].length ≤ 1000000 := by
    have := List.length_filter_le (fun x => !decide (x ∈ ps)) ends
    simp only [List.length_map, List.length_cons, List.length_nil]
    omega
  simp
  rw [lc_filter (p := fun x => !decide (x ∈ ps)) (g := fun x => W.d (.int x)) ends]
  · have h3' : ((ends.filter fun x => !decide (x ∈ ps)).map PyData.int).length + 1 ≤ 1000000 := h3
    simp [es, recvL_o c_at, app_o c_at h2, add_l h3, add_s h1, rowD]
  · intro x hx
    by_cases hx : x ∈ ps <;> simp [hx]

theorem history_turn (n b : Nat) {most many : Int} {t : Hq} {m : Nat} (hm : m < 24) (hmany : (m : Int) < many) {env : Vars} {h : Hq} (i : HiE most many t m env h) : ∃ env' h', evSs b (callN tab (n + 2)) law_history_b0 (env.set 5 (some (.d (.int m)))) h = .ok (.nx env') h' ∧ HiE most many t (m + 1) env' h' := by
  obtain ⟨bx, ends, rows, x1, x2, x3, hb, rfl, rfl, hr, hR, hP⟩ := i
  have hl : ends.length ≤ 100 := by
    have := par_len hP
    omega
  unfold law_history_b0
  by_cases h1 : (m : Int) = many - 1
  · obtain ⟨env', h', e1, e2⟩ := history_tail n b (most := most) (many := many) (x3 := x3) hm hb hr hR hP hP hl hl
    refine ⟨env', h', ?_, e2⟩
    rw [← e1]
    simp [law_history_b1, h1]
  · by_cases h2 : (0 : Int) < m
    · obtain ⟨ps, bx', hp, hb', e⟩ := parents_ok n b (t ++ [.lst (List.map rowD rows)]) hb h2 hP
      have hpl := par_len hp
      obtain ⟨env', h', e1, e2⟩ := history_tail n b (most := most) (many := many) (x3 := x3) hm hb' hr hR hP hp hl (by omega)
      refine ⟨env', h', ?_, e2⟩
      rw [← e1]
      have h2' : 0 < m := by omega
      simp [law_history_b2, law_history_b3, h1, h2, h2', e]
    · obtain ⟨env', h', e1, e2⟩ := history_tail n b (ps := []) (most := most) (many := many) (x3 := x3) hm hb hr hR hP ⟨by simp, .nil⟩ hl (by simp)
      refine ⟨env', h', ?_, e2⟩
      rw [← e1]
      have h2' : m = 0 := by omega
      subst h2'
      have h1' : ¬ (0 : Int) = many - 1 := h1
      simp [law_history_b2, law_history_b3, h1']

theorem history_ok (n b : Nat) {bx : Ob} (t : Hq) {most : Int} (hb : IsBox bx) (h0 : 0 < most) (h1 : most < 24) : ∃ rows bx', rows ≠ [] ∧ (rows.length : Int) ≤ most ∧ Rows rows ∧ IsBox bx' ∧ callN tab (n + 3) b 25 [.l 0, .d (.int most)] (bx :: t) = .ok (.d (histD rows)) (bx' :: t) := by
  rw [call_of (fd := f_law_history) _ _ rfl rfl]
  obtain ⟨v, bx1, v0, v1, hb1, e⟩ := draw_ok (n + 1) (t.length + 1) t hb h0
  obtain ⟨env', h', e1, bx', ends, rows, x1, x2, x3, hb', rfl, rfl, hr, hR, hP⟩ := forGo_ok (f := fun w env h => match bindT [5] false w env with
        | some env => evSs (t.length + 1) (callN tab (n + 2)) law_history_b0 env h
        | none => .bad) (HiE most (1 + v) t) (rangeUp 0 (1 + v)) 0 [some (.l 0), some (.d (.int most)), some (.d (.int (1 + v))), some (.l (t.length + 1)), some (.d (.list [])), none, none, none] (bx1 :: (t ++ [.lst []]))
        ⟨bx1, [], [], _, _, _, hb1, rfl, rfl, rfl, ⟨fun k r e => by simp at e⟩, ⟨by simp, .nil⟩⟩ fun j w env h e i => by
          obtain ⟨rfl, hj⟩ := rangeUp_at e
          have := history_turn n (t.length + 1) (m := 0 + j) (by omega) (by omega) i
          simpa using this
  have hr' : rows.length = (1 + v).toNat := by simpa using hr
  refine ⟨rows, bx', ?_, by omega, hR, hb', ?_⟩
  · intro z
    rw [z] at hr'
    simp at hr'
    omega
  · have rg : rgOk 0 (1 + v) = true := rg_of (by omega) (by omega) (by omega) (by omega)
    simp [f_law_history, s_for, e, rg]
    simp only [bind_1] at e1
    simp [e1, tup_o c_at, histD]
end Ev

namespace Ev
open PySem
def ansR (a : Str × Int) : PyData := .tuple [.str a.1, .int a.2]
def ansD (as : List (Str × Int)) : PyData := .tuple (as.map ansR)
structure Ans (m : Int) (as : List (Str × Int)) : Prop where
  rg : ∀ a ∈ as, (a.1 = "broken" ∨ a.1 = "works") ∧ 0 ≤ a.2 ∧ a.2 < m

def cnt (as : List (Str × Int)) (s : Str) (m : Int) : Nat := (as.filter fun a => decide (a.1 = s) && decide (a.2 = m)).length
theorem cnt_add (as : List (Str × Int)) (s s' : Str) (m m' : Int) : cnt (as ++ [(s, m)]) s' m' = cnt as s' m' + if s = s' ∧ m = m' then 1 else 0 := by
  unfold cnt
  rw [List.filter_append, List.length_append]
  by_cases h : s = s' ∧ m = m'
  · simp [h.1, h.2]
  · have : (decide (s = s') && decide (m = m')) = false := by
      rw [Bool.and_eq_false_iff, decide_eq_false_iff_not, decide_eq_false_iff_not]
      by_cases h1 : s = s'
      · exact .inr fun z => h ⟨h1, z⟩
      · exact .inl h1
    simp [this, h]
end Ev

namespace Ev
open PySem
def sF (w br k : Int) (two : Bool) : Str := if (if two then k < br else 0 < br) then (if k < w then "both" else "broken") else (if k < w then "works" else "")
def hF (w br k : Int) (two : Bool) : Str := if two then (if 2 * k ≤ w + br then "" else if (w + br).fdiv 2 * 2 = w + br then "works" else "broken") else (if w + br < k then "works" else "")
def ruleS (two : Bool) : Str := if two then "two" else "one"

end Ev

namespace Ev
open PySem
theorem count_ok (n b : Nat) (h : Hq) (as : List (Str × Int)) (s : Str) (m : Int) : callN tab (n + 1) b 29 [.d (ansD as), .d (.str s), .d (.int m)] h = .ok (.d (.int (cnt as s m))) h := by
  rw [call_of (fd := f_law_count) _ _ rfl rfl]
  simp [f_law_count, ansD]
  rw [lc_filter (p := fun a => decide (a.1 = s) && decide (a.2 = m)) (g := fun _ => W.d (.int 1)) as]
  · simp [cnt, lcEnd_m (g := fun _ => PyData.int 1)]
  · intro a ha
    by_cases h1 : a.1 = s <;> by_cases h2 : a.2 = m <;> simp [ansR, bindT, setAll, h1, h2]

end Ev

namespace Ev
open PySem
theorem counts_ok (n b : Nat) (h : Hq) (as : List (Str × Int)) (m : Int) : callN tab (n + 1) b 17 [.d (ansD as), .d (.int m)] h = .ok (.d (.tuple [.int (cnt as "works" m), .int (cnt as "broken" m)])) h := by
  rw [call_of (fd := f_counts_of) _ _ rfl rfl]
  have ce : ∀ s : Str, List.countP (fun y => PyData.eqv y (.str s)) ((as.filter fun a => decide (a.2 = m)).map fun a => PyData.str a.1) = cnt as s m := fun s => by
    rw [List.countP_map, List.countP_filter, List.countP_eq_length_filter]
    unfold cnt
    congr 2
  simp [f_counts_of, ansD]
  rw [lc_filter (p := fun a => decide (a.2 = m)) (g := fun a => W.d (.str a.1)) as]
  · simp [recv, isLst, evM]
    have c1 := ce "works"
    have c2 := ce "broken"
    rw [List.countP_map] at c1 c2
    exact ⟨congrArg Nat.cast c1, congrArg Nat.cast c2⟩
  · intro a ha
    by_cases h2 : a.2 = m <;> simp [ansR, bindT, setAll, h2]

end Ev

namespace Ev
open PySem
theorem held_back_ok (n b : Nat) (h : Hq) (as : List (Str × Int)) (m k : Int) (two : Bool) : callN tab (n + 2) b 19 [.d (ansD as), .d (.int m), .d (.int k), .d (.str (ruleS two))] h = .ok (.d (.str (hF (cnt as "works" m) (cnt as "broken" m) k two))) h := by
  rw [call_of (fd := f_held_back) _ _ rfl rfl]
  have s1 : ¬ (("two" : Str) = "one") := by decide +kernel
  obtain ⟨w, hw⟩ : ∃ w : Int, (cnt as "works" m : Int) = w := ⟨_, rfl⟩
  obtain ⟨br, hb⟩ : ∃ w : Int, (cnt as "broken" m : Int) = w := ⟨_, rfl⟩
  rw [hw, hb]
  cases two
  · by_cases h1 : w + br < k <;> simp [f_held_back, held_back_b0, held_back_b1, counts_ok, bindT, setAll, ruleS, hF, s1, hw, hb, h1]
  · by_cases h1 : 2 * k ≤ w + br <;> by_cases h2 : (w + br).fdiv 2 * 2 = w + br <;> simp [f_held_back, held_back_b0, held_back_b1, counts_ok, bindT, setAll, ruleS, hF, s1, hw, hb, h1, h2]

end Ev

namespace Ev
open PySem
def parI (rows : List (Str × List Int)) (k : Nat) : List Int := (rows[k]?.map (·.2)).getD []
def anStep (rows : List (Str × List Int)) (found : List Int) (k : Nat) : List Int := if (k : Int) ∈ found then found ++ (parI rows k).filter (fun p => !decide (p ∈ found)) else found
def ancN (rows : List (Str × List Int)) (m : Nat) : Nat → List Int
  | 0 => [(m : Int)]
  | j + 1 => anStep rows (ancN rows m j) (m - j)
def anc (rows : List (Str × List Int)) (m : Nat) : List Int := ancN rows m (m + 1)
theorem parI_len {rows : List (Str × List Int)} (hR : Rows rows) (k : Nat) : (parI rows k).length ≤ k := by
  unfold parI
  cases e : rows[k]? with
  | none => simp
  | some r => exact par_len (hR.par k r e)
theorem parI_nd {rows : List (Str × List Int)} (hR : Rows rows) (k : Nat) : (parI rows k).Nodup := by
  unfold parI
  cases e : rows[k]? with
  | none => simp
  | some r => exact (hR.par k r e).pw.imp fun h => by omega
theorem ancN_len {rows : List (Str × List Int)} (hR : Rows rows) (m : Nat) : ∀ j, (ancN rows m j).length ≤ 1 + m * j
  | 0 => by simp [ancN]
  | j + 1 => by
    have h1 := ancN_len hR m j
    have h2 := parI_len hR (m - j)
    have h3 := List.length_filter_le (fun p => !decide (p ∈ ancN rows m j)) (parI rows (m - j))
    have h4 : m * (j + 1) = m * j + m := Nat.mul_succ m j
    unfold ancN anStep
    split
    · rw [List.length_append]; omega
    · omega
theorem hist_at (h : Hq) {rows : List (Str × List Int)} {k : Nat} (hk : k < rows.length) : (evIdx h (.d (histD rows)) (.d (.int 1))) = .ok (.d (.tuple (rows.map rowD))) h ∧ evIdx h (.d (.tuple (rows.map rowD))) (.d (.int k)) = .ok (.d (rowD rows[k])) h ∧ evIdx h (.d (rowD rows[k])) (.d (.int 1)) = .ok (.d (.tuple ((parI rows k).map .int))) h := by
  refine ⟨by simp [histD], by simp [atZ_nat, hk], ?_⟩
  simp [rowD, parI, hk]
theorem hist_1 (h : Hq) {rows : List (Str × List Int)} : (evIdx h (.d (histD rows)) (.d (.int 1))) = .ok (.d (.tuple (rows.map rowD))) h := by simp [histD]

theorem anc_inner (b : Nat) (C : CallF) (hist mm kk : W) (x0 : Option W) (h0 : Hq) (found ps : List Int) (nd : ps.Nodup) (hl : found.length + ps.length < 900000) :
    ∃ x, forGo (fun w env h => match bindT [4] false w env with
        | some env => evSs b C ancestors_b2 env h
        | none => .bad) (ps.map (W.d ∘ PyData.int)) [some hist, some mm, some (.l h0.length), some kk, x0] (h0 ++ [.lst (found.map .int)]) = .ok (.nx [some hist, some mm, some (.l h0.length), some kk, x]) (h0 ++ [.lst ((found ++ ps.filter fun p => !decide (p ∈ found)).map .int)]) := by
  obtain ⟨env', h', e, x, rfl, rfl⟩ := forGo_ok (f := fun w env h => match bindT [4] false w env with
        | some env => evSs b C ancestors_b2 env h
        | none => .bad) (fun i env h => ∃ x, env = [some hist, some mm, some (.l h0.length), some kk, x] ∧ h = h0 ++ [.lst ((found ++ (ps.take i).filter fun p => !decide (p ∈ found)).map .int)]) (ps.map (W.d ∘ PyData.int)) 0 [some hist, some mm, some (.l h0.length), some kk, x0] (h0 ++ [.lst (found.map .int)]) ⟨x0, rfl, by simp⟩ fun j w env h e i => by
          obtain ⟨x, rfl, rfl⟩ := i
          rw [List.getElem?_map] at e
          cases q : ps[j]? with
          | none => rw [q] at e; cases e
          | some p =>
            rw [q] at e
            cases e
            obtain ⟨hj, hp⟩ := List.getElem?_eq_some_iff.mp q
            have tk : ps.take (j + 1) = ps.take j ++ [p] := by rw [List.take_succ, q]; rfl
            have np : p ∉ ps.take j := fun z => by
              obtain ⟨i, hi⟩ := List.getElem?_of_mem z
              have hij : i < j := by
                have := (List.getElem?_eq_some_iff.mp hi).1
                rw [List.length_take] at this
                omega
              rw [List.getElem?_take_of_lt hij] at hi
              obtain ⟨hi1, hi2⟩ := List.getElem?_eq_some_iff.mp hi
              exact List.pairwise_iff_getElem.mp nd i j hi1 hj hij (by rw [hi2, hp])
            refine ⟨[some hist, some mm, some (.l h0.length), some kk, some (.d (.int p))], h0 ++ [.lst ((found ++ (ps.take (j + 1)).filter fun p => !decide (p ∈ found)).map .int)], ?_, _, rfl, by simp only [Nat.zero_add]⟩
            have hlen : (List.map PyData.int (found ++ (ps.take j).filter fun p => !decide (p ∈ found))).length < 1000000 := by
              have := List.length_filter_le (fun p => !decide (p ∈ found)) (ps.take j)
              rw [List.length_take] at this
              simp only [List.length_map, List.length_append]
              omega
            have hin : decide (p ∈ found ++ (ps.take j).filter fun p => !decide (p ∈ found)) = decide (p ∈ found) := by
              rw [decide_eq_decide, List.mem_append, List.mem_filter]
              exact ⟨fun h => h.elim id fun h => absurd h.1 np, .inl⟩
            simp only [Nat.zero_add]
            rw [tk, List.filter_append]
            by_cases hf : p ∈ found
            · simp only [Function.comp, bind_1, ancestors_b2, s_cons, s_ifs, x_cmp, x_var, List.set_cons_succ, List.set_cons_zero, List.getElem?_cons_succ, List.getElem?_cons_zero, b_ok, cmp_dl last_at, nin_l dpt_i, any_int, hin, liftO_s, hf, decide_true, Bool.not_true, s_nil, List.filter_cons_of_neg, List.filter_nil, List.append_nil]
              simp [hf]
            · simp only [Function.comp, bind_1, ancestors_b2, ancestors_b3, s_cons, s_ifs, x_cmp, x_var, List.set_cons_succ, List.set_cons_zero, List.getElem?_cons_succ, List.getElem?_cons_zero, b_ok, cmp_dl last_at, nin_l dpt_i, any_int, hin, liftO_s, hf, decide_false, Bool.not_false, s_nil, s_app, recvL_o last_at, if_true, app_o last_at hlen, last_set]
              simp [hf]
  refine ⟨x, ?_⟩
  rw [e]
  simp

theorem ancestors_ok (n b : Nat) (h0 : Hq) {rows : List (Str × List Int)} (hR : Rows rows) (hr : rows.length ≤ 24) {m : Nat} (hm : m < rows.length) : callN tab (n + 1) b 0 [.d (histD rows), .d (.int m)] h0 = .ok (.d (.tuple ((sortI (anc rows m)).map .int))) h0 := by
  rw [call_of (fd := f_ancestors) _ _ rfl rfl]
  obtain ⟨env', h', e, x1, x2, rfl, rfl⟩ := forGo_ok (f := fun w env h => match bindT [3] false w env with
        | some env => evSs h0.length (callN tab n) ancestors_b0 env h
        | none => .bad) (fun j env h' => ∃ x1 x2, env = [some (.d (histD rows)), some (.d (.int m)), some (.l h0.length), x1, x2] ∧ h' = h0 ++ [.lst ((ancN rows m j).map .int)]) (rangeDn m (-1)) 0 [some (.d (histD rows)), some (.d (.int m)), some (.l h0.length), none, none] (h0 ++ [.lst [.int m]]) ⟨_, _, rfl, rfl⟩ fun j w env h' e i => by
          obtain ⟨rfl, hj⟩ := rangeDn_at e
          obtain ⟨x1, x2, rfl, rfl⟩ := i
          simp only [Nat.zero_add]
          have hk : m - j < rows.length := by omega
          have ek : ((m : Int) - (j : Int)) = ((m - j : Nat) : Int) := by omega
          rw [ek]
          obtain ⟨q1, q2, q3⟩ := hist_at (h0 ++ [.lst ((ancN rows m j).map .int)]) hk
          by_cases hf : ((m - j : Nat) : Int) ∈ ancN rows m j
          · have hl : (ancN rows m j).length + (parI rows (m - j)).length < 900000 := by
              have h1 := ancN_len hR m j
              have h2 := parI_len hR (m - j)
              have h3 : m * j ≤ 24 * 24 := Nat.mul_le_mul (by omega) (by omega)
              omega
            obtain ⟨x, e⟩ := anc_inner h0.length (callN tab n) (.d (histD rows)) (.d (.int m)) (.d (.int (m - j : Nat))) x2 h0 (ancN rows m j) (parI rows (m - j)) (parI_nd hR _) hl
            refine ⟨_, _, ?_, some (.d (.int (m - j : Nat))), x, rfl, rfl⟩
            have ea : ancN rows m (j + 1) = ancN rows m j ++ (parI rows (m - j)).filter (fun p => !decide (p ∈ ancN rows m j)) := by simp only [ancN, anStep, if_pos hf]
            rw [ea]
            simp only [bind_1, List.set_cons_succ, List.set_cons_zero, ancestors_b0, ancestors_b1, s_cons, s_ifs, x_cmp, x_var, List.getElem?_cons_succ, List.getElem?_cons_zero, b_ok, cmp_dl last_at, in_l dpt_i, any_int, hf, decide_true, liftO_s, s_for, x_ite, x_idx, x_lit, q1, q2, q3, it_t, live_d, kpt_n, List.map_map, s_nil]
            simp only [bind_1] at e
            simp only [e, b_ok, s_nil]
          · refine ⟨_, _, ?_, some (.d (.int (m - j : Nat))), x2, rfl, rfl⟩
            have ea : ancN rows m (j + 1) = ancN rows m j := by simp only [ancN, anStep, if_neg hf]
            rw [ea]
            simp only [bind_1, List.set_cons_succ, List.set_cons_zero, ancestors_b0, s_cons, s_ifs, x_cmp, x_var, List.getElem?_cons_succ, List.getElem?_cons_zero, b_ok, cmp_dl last_at, in_l dpt_i, any_int, hf, decide_false, liftO_s, s_nil]
  have rg : rgOk (-1) m = true := rg_of (by omega) (by omega) (by omega) (by omega)
  have hlen : 0 + (rangeDn (m : Int) (-1)).length = m + 1 := by rw [rangeDn_len]; omega
  rw [hlen] at e
  simp only [bind_1] at e
  simp [f_ancestors, s_for, rg, e, sorted_o last_at, anc]

end Ev

namespace Ev
open PySem
/-- m is broken by c -/
def Ab (rows : List (Str × List Int)) (m c : Nat) : Bool := decide ((c : Int) ∈ anc rows m)
theorem mem_anStep {rows : List (Str × List Int)} {found : List Int} {k : Nat} {c : Int} : c ∈ anStep rows found k ↔ c ∈ found ∨ ((k : Int) ∈ found ∧ c ∈ parI rows k) := by
  unfold anStep
  split
  · rename_i h
    simp only [List.mem_append, List.mem_filter, Bool.not_eq_true', decide_eq_false_iff_not]
    constructor
    · rintro (a | ⟨a, _⟩)
      · exact .inl a
      · exact .inr ⟨h, a⟩
    · rintro (a | ⟨_, a⟩)
      · exact .inl a
      · by_cases z : c ∈ found
        · exact .inl z
        · exact .inr ⟨a, z⟩
  · rename_i h
    constructor
    · exact .inl
    · rintro (a | ⟨a, _⟩)
      · exact a
      · exact absurd a h
end Ev

namespace Ev
open PySem
theorem above_ok (n b : Nat) (h : Hq) {rows : List (Str × List Int)} (hR : Rows rows) (hr : rows.length ≤ 24) {m : Nat} (hm : m < rows.length) : callN tab (n + 1) b 26 [.d (histD rows), .d (.int m)] h = .ok (.d (.list ((anc rows m).map .int))) h := by
  rw [call_of (fd := f_law_above) _ _ rfl rfl]
  obtain ⟨env', h', e, x1, x2, rfl, rfl⟩ := forGo_ok (f := fun w env h => match bindT [3] false w env with
        | some env => evSs b (callN tab n) law_above_b0 env h
        | none => .bad) (fun j env h' => ∃ x1 x2, env = [some (.d (histD rows)), some (.d (.int m)), some (.d (.list ((ancN rows m j).map .int))), x1, x2] ∧ h' = h) (rangeDn m (-1)) 0 [some (.d (histD rows)), some (.d (.int m)), some (.d (.list [.int m])), none, none] h ⟨_, _, rfl, rfl⟩ fun j w env h' e i => by
          obtain ⟨rfl, hj⟩ := rangeDn_at e
          obtain ⟨x1, x2, rfl, rfl⟩ := i
          simp only [Nat.zero_add]
          have hk : m - j < rows.length := by omega
          have ek : ((m : Int) - (j : Int)) = ((m - j : Nat) : Int) := by omega
          rw [ek]
          obtain ⟨q1, q2, q3⟩ := hist_at h' hk
          by_cases hf : ((m - j : Nat) : Int) ∈ ancN rows m j
          · refine ⟨_, _, ?_, some (.d (.int (m - j : Nat))), x2, rfl, rfl⟩
            have ea : ancN rows m (j + 1) = ancN rows m j ++ (parI rows (m - j)).filter (fun p => !decide (p ∈ ancN rows m j)) := by simp only [ancN, anStep, if_pos hf]
            have hl : (List.map PyData.int (ancN rows m j)).length + (List.map PyData.int ((parI rows (m - j)).filter (fun p => !decide (p ∈ ancN rows m j)))).length ≤ 1000000 := by
              have h1 := ancN_len hR m j
              have h2 := parI_len hR (m - j)
              have h3 : m * j ≤ 24 * 24 := Nat.mul_le_mul (by omega) (by omega)
              have h4 := List.length_filter_le (fun p => !decide (p ∈ ancN rows m j)) (parI rows (m - j))
              simp only [List.length_map]
              omega
            rw [ea]
            simp only [bind_1, List.set_cons_succ, List.set_cons_zero, law_above_b0, law_above_b1, s_cons, s_ifs, s_asg, x_cmp, x_bin, x_lc, x_var, List.getElem?_cons_succ, List.getElem?_cons_zero, b_ok, op2_d, cmp_d, in_l dpt_i, any_int, hf, decide_true, liftO_s, x_ite, x_idx, x_lit, q1, q2, q3, it_t, live_d, kpt_n, List.map_map, s_nil]
            rw [lc_filter (p := fun p => !decide (p ∈ ancN rows m j)) (g := fun x => W.d (.int x)) (parI rows (m - j))]
            · simp only [noEx_ok, b_ok, lcEnd_m, op2_d, cmp_d, add_l hl, liftO_s, bind_1, List.set_cons_succ, List.set_cons_zero, List.map_append, s_nil]
            · intro x hx
              by_cases hx : x ∈ ancN rows m j <;> simp [hx]
          · refine ⟨_, _, ?_, some (.d (.int (m - j : Nat))), x2, rfl, rfl⟩
            have ea : ancN rows m (j + 1) = ancN rows m j := by simp only [ancN, anStep, if_neg hf]
            rw [ea]
            simp only [bind_1, List.set_cons_succ, List.set_cons_zero, law_above_b0, s_cons, s_ifs, x_cmp, x_var, List.getElem?_cons_succ, List.getElem?_cons_zero, b_ok, op2_d, cmp_d, in_l dpt_i, any_int, hf, decide_false, liftO_s, s_nil]
  have rg : rgOk (-1) m = true := rg_of (by omega) (by omega) (by omega) (by omega)
  have hlen : 0 + (rangeDn (m : Int) (-1)).length = m + 1 := by rw [rangeDn_len]; omega
  rw [hlen] at e
  simp only [bind_1] at e
  simp [f_law_above, s_for, rg, e, anc]

theorem breaks_ok (n b : Nat) (h : Hq) {rows : List (Str × List Int)} (hR : Rows rows) (hr : rows.length ≤ 24) {m : Nat} (hm : m < rows.length) (c : Int) : callN tab (n + 2) b 27 [.d (histD rows), .d (.int c), .d (.int m)] h = .ok (.d (.bool (decide (c ∈ anc rows m)))) h := by
  rw [call_of (fd := f_law_breaks) _ _ rfl rfl]
  simp [f_law_breaks, above_ok n b h hR hr hm]
end Ev

namespace Ev
open PySem
/-- the makes that are not skipped -/
def tst (n : Nat) (sk : List Nat) : List Nat := (List.range n).filter fun m => !decide (m ∈ sk)
def skD (sk : List Nat) : PyData := .tuple (sk.map ni)
theorem testable_ok (n b : Nat) (h : Hq) {rows : List (Str × List Int)} (hr : rows.length ≤ 24) (sk : List Nat) : callN tab (n + 1) b 1 [.d (histD rows), .d (skD sk)] h = .ok (.d (.list ((tst rows.length sk).map ni))) h := by
  rw [call_of (fd := f_testable) _ _ rfl rfl]
  simp [f_testable, hist_1, rg_nat (n := rows.length) (by omega)]
  rw [rangeUp_nat, lc_filter (p := fun m => !decide (m ∈ sk)) (g := fun m => W.d (ni m))]
  · simp [tst]
  · intro m _
    by_cases hm : m ∈ sk <;> simp [skD, hm]
theorem tst_lt {n m : Nat} {sk : List Nat} (h : m ∈ tst n sk) : m < n := by
  unfold tst at h
  exact List.mem_range.mp (List.mem_filter.mp h).1
/-! classes: by a key -/
def keyOf (A : Nat → Nat → Bool) (T : List Nat) (c : Nat) : List Bool := T.map fun m => A m c
def gAt (key : Nat → List Bool) (found : List (List Nat)) (c : Nat) : Option Nat := found.findIdx? fun p => decide (key (p.headD 0) = key c)
def gStep (key : Nat → List Bool) (found : List (List Nat)) (c : Nat) : List (List Nat) := match gAt key found c with
  | some i => found.set i (found[i]?.getD [] ++ [c])
  | none => found ++ [[c]]
def grp (key : Nat → List Bool) : Nat → List (List Nat)
  | 0 => []
  | c + 1 => gStep key (grp key c) c
def clsD (found : List (List Nat)) : PyData := .tuple (found.map fun p => .tuple (p.map ni))
theorem gStep_len (key : Nat → List Bool) (found : List (List Nat)) (c : Nat) : (gStep key found c).length ≤ found.length + 1 := by
  unfold gStep
  split <;> simp
theorem grp_len (key : Nat → List Bool) : ∀ n, (grp key n).length ≤ n
  | 0 => by simp [grp]
  | n + 1 => by
    have := grp_len key n
    have := gStep_len key (grp key n) n
    simp only [grp]
    omega
theorem gStep_ne {key : Nat → List Bool} {found : List (List Nat)} {c : Nat} (h : ∀ p ∈ found, p ≠ []) : ∀ p ∈ gStep key found c, p ≠ [] := by
  intro p hp
  unfold gStep at hp
  split at hp
  · rcases List.mem_or_eq_of_mem_set hp with hp | hp
    · exact h p hp
    · subst hp; simp
  · rcases List.mem_append.mp hp with hp | hp
    · exact h p hp
    · simp only [List.mem_singleton] at hp
      subst hp; simp
theorem grp_ne (key : Nat → List Bool) : ∀ n, ∀ p ∈ grp key n, p ≠ []
  | 0 => by simp [grp]
  | n + 1 => gStep_ne (grp_ne key n)
theorem gStep_sum (key : Nat → List Bool) (found : List (List Nat)) (c k : Nat) (h : ∀ p ∈ found, p.length ≤ k) : ∀ p ∈ gStep key found c, p.length ≤ k + 1 := by
  intro p hp
  unfold gStep at hp
  split at hp
  · rename_i i _
    rcases List.mem_or_eq_of_mem_set hp with hp | hp
    · have := h p hp; omega
    · subst hp
      rw [List.length_append]
      cases e : found[i]? with
      | none => simp
      | some q => have := h q (List.mem_of_getElem? e); simp; omega
  · rcases List.mem_append.mp hp with hp | hp
    · have := h p hp; omega
    · simp only [List.mem_singleton] at hp
      subst hp; simp
theorem grp_sum (key : Nat → List Bool) : ∀ n, ∀ p ∈ grp key n, p.length ≤ n
  | 0 => by simp [grp]
  | n + 1 => gStep_sum key _ n n (grp_sum key n)
theorem headD_set {found : List (List Nat)} {i c : Nat} (h : ∀ p ∈ found, p ≠ []) (hi : i < found.length) : (found.set i (found[i]?.getD [] ++ [c])).map (fun p => p.headD 0) = found.map fun p => p.headD 0 := by
  apply List.ext_getElem?
  intro j
  rw [List.getElem?_map, List.getElem?_map]
  by_cases hj : j = i
  · subst hj
    rw [List.getElem?_set_self hi, List.getElem?_eq_getElem hi]
    have := h found[j] (List.getElem_mem hi)
    cases e : found[j] with
    | nil => exact absurd e this
    | cons x l => simp
  · rw [List.getElem?_set_ne (Ne.symm hj)]

theorem anc_in (h : Hq) {rows : List (Str × List Int)} (m c : Nat) : cmpW .In (.d (.int c)) (.d (.tuple ((sortI (anc rows m)).map .int))) h = .ok (.d (.bool (Ab rows m c))) h := by
  simp [Ab, mem_sortI]
theorem any_blists {marks : List (List Bool)} {k : List Bool} : ((marks.map fun m => PyData.list (m.map bo)).any fun y => PyData.eqv y (.list (k.map bo))) = decide (k ∈ marks) := by
  rw [Bool.eq_iff_iff]
  simp only [List.any_map, List.any_eq_true, Function.comp, eqv_lb, decide_eq_true_eq]
  exact ⟨fun ⟨x, hx, e⟩ => e ▸ hx, fun hx => ⟨k, hx, rfl⟩⟩
theorem find_blists {marks : List (List Bool)} {k : List Bool} : ((marks.map fun m => PyData.list (m.map bo)).findIdx? fun y => PyData.eqv y (.list (k.map bo))) = marks.findIdx? fun m => decide (m = k) := by
  rw [List.findIdx?_map]
  congr
  funext m
  simp
theorem classes_ok (n b : Nat) (h0 : Hq) {rows : List (Str × List Int)} (hR : Rows rows) (hr : rows.length ≤ 24) (sk : List Nat) :
    callN tab (n + 2) b 2 [.d (histD rows), .d (skD sk)] h0 = .ok (.d (clsD (grp (keyOf (Ab rows) (tst rows.length sk)) rows.length))) h0 := by
  rw [call_of (fd := f_classes) _ _ rfl rfl]
  obtain ⟨T, hT⟩ : ∃ T, tst rows.length sk = T := ⟨_, rfl⟩
  have tlt : ∀ m ∈ T, m < rows.length := fun m hm => tst_lt (hT ▸ hm)
  have tsz : T.length ≤ 24 := by
    rw [← hT]
    have := List.length_filter_le (fun m => !decide (m ∈ sk)) (List.range rows.length)
    rw [List.length_range] at this
    unfold tst
    omega
  obtain ⟨key, hkey⟩ : ∃ key, keyOf (Ab rows) T = key := ⟨_, rfl⟩
  rw [hT, hkey]
  show finR true h0.length (evSs h0.length (callN tab (n + 1)) f_classes.body [some (.d (histD rows)), some (.d (skD sk)), none, none, none, none, none, none, none, none] h0) = _
  have rowsE : lcGo (fun w h => (callN tab (n + 1) h0.length 0 [.d (histD rows), w] h).bind fun r h => .ok (some r) h) (T.map (W.d ∘ ni)) h0 = .ok (T.map fun m => W.d (.tuple ((sortI (anc rows m)).map .int))) h0 := lc_map _ fun m hm => by
    simp [Function.comp, ancestors_ok n h0.length h0 hR hr (tlt m hm)]
  have e0 : evS h0.length (callN tab (n + 1)) classes_s0 [some (.d (histD rows)), some (.d (skD sk)), none, none, none, none, none, none, none, none] h0 = .ok (.nx [some (.d (histD rows)), some (.d (skD sk)), some (.d (.list (T.map fun m => .tuple ((sortI (anc rows m)).map .int)))), none, none, none, none, none, none, none]) h0 := by
    simp [testable_ok n h0.length h0 hr sk, hT]
    rw [rowsE]
    simp
  obtain ⟨env', h', e3, x6, x7, x9, rfl, rfl⟩ := for_up (f := fun w env h => evSs h0.length (callN tab (n + 1)) classes_b0 (env.set 6 (some w)) h) rows.length (fun c env h => ∃ x6 x7 x9 : Option W, env = [some (.d (histD rows)), some (.d (skD sk)), some (.d (.list (T.map fun m => .tuple ((sortI (anc rows m)).map .int)))), none, some (.l h0.length), some (.l (h0.length + 1)), x6, x7, none, x9] ∧
      h = h0 ++ [.lst ((grp key c).map fun p => .list ((key (p.headD 0)).map bo)), .lst ((grp key c).map fun p => .tuple (p.map ni))])
    (env := [some (.d (histD rows)), some (.d (skD sk)), some (.d (.list (T.map fun m => .tuple ((sortI (anc rows m)).map .int)))), none, some (.l h0.length), some (.l (h0.length + 1)), none, none, none, none]) (h := h0 ++ [.lst [], .lst []]) ⟨none, none, none, rfl, rfl⟩ fun c env h hc i => by
      obtain ⟨x6, x7, x9, rfl, rfl⟩ := i
      obtain ⟨found, hf⟩ : ∃ f, grp key c = f := ⟨_, rfl⟩
      have fl : found.length ≤ 24 := by have := grp_len key c; rw [hf] at this; omega
      have fne := grp_ne key c
      have fsz := grp_sum key c
      rw [hf] at fne fsz
      rw [hf]
      have m0 : evS h0.length (callN tab (n + 1)) classes_b0_s0 [some (.d (histD rows)), some (.d (skD sk)), some (.d (.list (T.map fun m => .tuple ((sortI (anc rows m)).map .int)))), none, some (.l h0.length), some (.l (h0.length + 1)), some (.d (.int c)), x7, none, x9] (h0 ++ [.lst (found.map fun p => .list ((key (p.headD 0)).map bo)), .lst (found.map fun p => .tuple (p.map ni))]) =
          .ok (.nx [some (.d (histD rows)), some (.d (skD sk)), some (.d (.list (T.map fun m => .tuple ((sortI (anc rows m)).map .int)))), none, some (.l h0.length), some (.l (h0.length + 1)), some (.d (.int c)), some (.d (.list ((key c).map bo))), none, x9]) (h0 ++ [.lst (found.map fun p => .list ((key (p.headD 0)).map bo)), .lst (found.map fun p => .tuple (p.map ni))]) := by
        simp only [s_asg, x_lc, x_ite, x_var, List.getElem?_cons_succ, List.getElem?_cons_zero, b_ok, it_l, live_d, kpt_n, List.map_map, bind_1, x_none, boolO_n, x_cmp, List.set_cons_succ, List.set_cons_zero]
        rw [lc_map (emb := W.d ∘ fun m => PyData.tuple ((sortI (anc rows m)).map .int)) (g := fun m => W.d (bo (Ab rows m c)))]
        · simp only [noEx_ok, b_ok, lcEnd_m, List.set_cons_succ, List.set_cons_zero]
          rw [← hkey]
          simp [keyOf, Function.comp_def]
        · intro m _
          simp only [Function.comp, List.getElem?_cons_succ, List.getElem?_cons_zero, b_ok, anc_in]
      have mem : decide (key c ∈ found.map fun p => key (p.headD 0)) = (gAt key found c).isSome := by
        rw [Bool.eq_iff_iff]
        unfold gAt
        simp only [decide_eq_true_eq, List.mem_map, List.findIdx?_isSome, List.any_eq_true]
      have mapm : (found.map fun p => PyData.list ((key (p.headD 0)).map bo)) = (found.map fun p => key (p.headD 0)).map fun m => PyData.list (m.map bo) := by rw [List.map_map]; rfl
      have c0 : cmpW .In (.d (.list ((key c).map bo))) (.l h0.length) (h0 ++ [.lst (found.map fun p => .list ((key (p.headD 0)).map bo)), .lst (found.map fun p => .tuple (p.map ni))]) = .ok (.d (.bool (gAt key found c).isSome)) (h0 ++ [.lst (found.map fun p => .list ((key (p.headD 0)).map bo)), .lst (found.map fun p => .tuple (p.map ni))]) := by
        rw [cmp_dl at2_0, in_l dpt_lb, mapm, any_blists, mem]
        rfl
      have nx : grp key (c + 1) = gStep key found c := by simp only [grp, hf]
      rw [nx]
      have l1 : (found.map fun p => PyData.list ((key (p.headD 0)).map bo)).length < 1000000 := by rw [List.length_map]; omega
      have l2 : (found.map fun p => PyData.tuple (p.map ni)).length < 1000000 := by rw [List.length_map]; omega
      unfold classes_b0
      rw [show ([some (W.d (histD rows)), some (W.d (skD sk)), some (W.d (.list (T.map fun m => .tuple ((sortI (anc rows m)).map .int)))), none, some (W.l h0.length), some (W.l (h0.length + 1)), x6, x7, none, x9] : Vars).set 6 (some (W.d (.int (c : Nat)))) = [some (.d (histD rows)), some (.d (skD sk)), some (.d (.list (T.map fun m => .tuple ((sortI (anc rows m)).map .int)))), none, some (.l h0.length), some (.l (h0.length + 1)), some (.d (.int c)), x7, none, x9] from rfl, seq_nx m0]
      cases hg : gAt key found c with
      | none =>
        refine ⟨_, _, ?_, some (.d (.int c)), some (.d (.list ((key c).map bo))), x9, rfl, rfl⟩
        rw [hg] at c0
        have es : gStep key found c = found ++ [[c]] := by simp only [gStep, hg]
        rw [es]
        simp only [s_cons, s_ifs, x_cmp, x_var, List.getElem?_cons_succ, List.getElem?_cons_zero, b_ok, c0, Option.isSome_none, classes_b2, s_app, recvL_o at2_0, recvL_o at2_1, if_true, app_o at2_0 l1, app_o at2_1 l2, set2_0, set2_1, x_tup, x_cons, x_nil, allD_c, allD_0, Option.map_some, s_nil]
        simp
      | some i =>
        obtain ⟨hi, hi2, hi3⟩ := List.findIdx?_eq_some_iff_getElem.mp hg
        refine ⟨_, _, ?_, some (.d (.int c)), some (.d (.list ((key c).map bo))), some (.d (.int i)), rfl, rfl⟩
        rw [hg] at c0
        have es : gStep key found c = found.set i (found[i]?.getD [] ++ [c]) := by simp only [gStep, hg]
        have eh := headD_set (c := c) fne hi
        have eh2 : ((found.set i (found[i]?.getD [] ++ [c])).map fun p => PyData.list ((key (p.headD 0)).map bo)) = found.map fun p => PyData.list ((key (p.headD 0)).map bo) := by
          have := congrArg (List.map fun k => PyData.list ((key k).map bo)) eh
          simpa only [List.map_map, Function.comp_def] using this
        rw [es, eh2]
        have ix : evM .index (.l h0.length) [.d (.list ((key c).map bo))] (h0 ++ [.lst (found.map fun p => .list ((key (p.headD 0)).map bo)), .lst (found.map fun p => .tuple (p.map ni))]) = .ok (.d (.int i)) (h0 ++ [.lst (found.map fun p => .list ((key (p.headD 0)).map bo)), .lst (found.map fun p => .tuple (p.map ni))]) := by
          have fi : ((found.map fun p => PyData.list ((key (p.headD 0)).map bo)).findIdx? fun y => PyData.eqv y (.list ((key c).map bo))) = some i := by
            rw [mapm, find_blists, List.findIdx?_map]
            exact hg
          simp only [evM, toDD_l at2_0, dpt_lb, if_true, fi]
        have rc : recv .index (h0 ++ [.lst (found.map fun p => .list ((key (p.headD 0)).map bo)), .lst (found.map fun p => .tuple (p.map ni))]) (.l h0.length) = true := by simp only [recv, isLst, toDD_l at2_0]
        have gi : (found.map fun p => PyData.tuple (p.map ni))[i]? = some (.tuple (found[i].map ni)) := by simp [hi]
        have sz : (found[i].map ni).length + [PyData.int (c : Nat)].length ≤ 1000000 := by
          have := fsz found[i] (List.getElem_mem hi)
          simp; omega
        simp only [s_cons, s_ifs, x_cmp, x_var, List.getElem?_cons_succ, List.getElem?_cons_zero, b_ok, c0, Option.isSome_some, classes_b1, s_asg, x_mth, rc, if_true, x_cons, x_nil, ix, bind_1, List.set_cons_succ, List.set_cons_zero, s_set, x_bin, x_idx, idx_o at2_1, atZ_nat, gi, liftO_s, x_tup, allD_c, allD_0, Option.map_some, op2_d, add_t sz, set_o at2_1 (ixN_nat (n := (found.map fun p => PyData.tuple (p.map ni)).length) (k := i) (by simpa using hi)), set2_1, s_nil]
        simp [List.map_set, hi]
  have rg : rgOk 0 rows.length = true := rg_nat (by omega)
  unfold f_classes
  simp only
  rw [seq_nx e0, seq_nx (s := classes_s1) (env' := [some (.d (histD rows)), some (.d (skD sk)), some (.d (.list (T.map fun m => .tuple ((sortI (anc rows m)).map .int)))), none, some (.l h0.length), none, none, none, none, none]) (h' := h0 ++ [.lst []]) (by simp),
    seq_nx (s := classes_s2) (env' := [some (.d (histD rows)), some (.d (skD sk)), some (.d (.list (T.map fun m => .tuple ((sortI (anc rows m)).map .int)))), none, some (.l h0.length), some (.l (h0.length + 1)), none, none, none, none]) (h' := h0 ++ [.lst [], .lst []]) (by simp),
    seq_nx (s := classes_s3) (h' := h0 ++ [.lst ((grp key rows.length).map fun p => .list ((key (p.headD 0)).map bo)), .lst ((grp key rows.length).map fun p => .tuple (p.map ni))]) (env' := [some (.d (histD rows)), some (.d (skD sk)), some (.d (.list (T.map fun m => .tuple ((sortI (anc rows m)).map .int)))), none, some (.l h0.length), some (.l (h0.length + 1)), x6, x7, none, x9]) (by simp [s_for, hist_1, rg, e3])]
  simp [tup_o at2_1, clsD]
theorem grp_lt (key : Nat → List Bool) : ∀ n, ∀ p ∈ grp key n, ∀ x ∈ p, x < n
  | 0 => by simp [grp]
  | n + 1 => by
    intro p hp x hx
    simp only [grp, gStep] at hp
    split at hp
    · rename_i i _
      rcases List.mem_or_eq_of_mem_set hp with hp | hp
      · have := grp_lt key n p hp x hx; omega
      · subst hp
        rcases List.mem_append.mp hx with hx | hx
        · cases e : (grp key n)[i]? with
          | none => rw [e] at hx; simp at hx
          | some q => rw [e] at hx; have := grp_lt key n q (List.mem_of_getElem? e) x hx; omega
        · simp only [List.mem_singleton] at hx; omega
    · rcases List.mem_append.mp hp with hp | hp
      · have := grp_lt key n p hp x hx; omega
      · simp only [List.mem_singleton] at hp
        subst hp
        simp only [List.mem_singleton] at hx; omega
end Ev

namespace Ev
open PySem
/-! which classes break a make -/
def brk (A : Nat → Nat → Bool) (found : List (List Nat)) (m : Nat) : List Nat := (List.range found.length).filter fun k => A m ((found[k]?.getD []).headD 0)
def brow (A : Nat → Nat → Bool) (found : List (List Nat)) (m : Nat) : List Bool := found.map fun p => A m (p.headD 0)
theorem brk_brow {A : Nat → Nat → Bool} {found : List (List Nat)} {m m' : Nat} : brk A found m = brk A found m' ↔ brow A found m = brow A found m' := by
  constructor
  · intro h
    apply List.ext_getElem?
    intro k
    by_cases hk : k < found.length
    · have h1 : k ∈ brk A found m ↔ k ∈ brk A found m' := by rw [h]
      unfold brk at h1
      simp only [List.mem_filter, List.mem_range, hk, true_and, List.getElem?_eq_getElem hk, Option.getD_some] at h1
      unfold brow
      simp only [List.getElem?_map, List.getElem?_eq_getElem hk, Option.map_some]
      congr 1
      rw [Bool.eq_iff_iff]
      exact h1
    · unfold brow
      rw [List.getElem?_eq_none (by simp; omega), List.getElem?_eq_none (by simp; omega)]
  · intro h
    unfold brk
    apply List.filter_congr
    intro k hk
    have hk := List.mem_range.mp hk
    have := congrArg (fun l => l[k]?) h
    simp only [brow, List.getElem?_map, List.getElem?_eq_getElem hk, Option.map_some, Option.some.injEq] at this
    simpa [List.getElem?_eq_getElem hk] using this
theorem brk_pos {A : Nat → Nat → Bool} {found : List (List Nat)} {m : Nat} : 0 < (brk A found m).length ↔ true ∈ brow A found m := by
  rw [List.length_pos_iff_exists_mem]
  unfold brk brow
  simp only [List.mem_filter, List.mem_range, List.mem_map]
  constructor
  · rintro ⟨k, hk, e⟩
    rw [List.getElem?_eq_getElem hk, Option.getD_some] at e
    exact ⟨found[k], List.getElem_mem hk, e⟩
  · rintro ⟨p, hp, e⟩
    obtain ⟨k, hk, rfl⟩ := List.getElem_of_mem hp
    exact ⟨k, hk, by rw [List.getElem?_eq_getElem hk]; exact e⟩
theorem brk_lt {A : Nat → Nat → Bool} {found : List (List Nat)} {m : Nat} : (brk A found m).length < found.length ↔ false ∈ brow A found m := by
  have hl : (brk A found m).length = found.length ↔ ∀ k ∈ List.range found.length, A m ((found[k]?.getD []).headD 0) = true := by
    have := List.length_filter_eq_length_iff (p := fun k => A m ((found[k]?.getD []).headD 0)) (l := List.range found.length)
    rw [List.length_range] at this
    exact this
  have hle : (brk A found m).length ≤ found.length := by
    have := List.length_filter_le (fun k => A m ((found[k]?.getD []).headD 0)) (List.range found.length)
    rw [List.length_range] at this
    exact this
  constructor
  · intro h
    have : ¬ ∀ k ∈ List.range found.length, A m ((found[k]?.getD []).headD 0) = true := fun z => by have := hl.mpr z; omega
    simp only [Classical.not_forall] at this
    obtain ⟨k, hk, e⟩ := this
    have hk := List.mem_range.mp hk
    rw [List.getElem?_eq_getElem hk, Option.getD_some] at e
    exact List.mem_map.mpr ⟨found[k], List.getElem_mem hk, by simpa using e⟩
  · intro h
    obtain ⟨p, hp, e⟩ := List.mem_map.mp h
    obtain ⟨k, hk, rfl⟩ := List.getElem_of_mem hp
    have : ¬ (brk A found m).length = found.length := fun z => by
      have := hl.mp z k (List.mem_range.mpr hk)
      rw [List.getElem?_eq_getElem hk, Option.getD_some, e] at this
      cases this
    omega
theorem cls_at {found : List (List Nat)} {k : Nat} (hk : k < found.length) (hn : found[k] ≠ []) (h : Hq) : evIdx h (.d (clsD found)) (.d (.int k)) = .ok (.d (.tuple (found[k].map ni))) h ∧ evIdx h (.d (.tuple (found[k].map ni))) (.d (.int 0)) = .ok (.d (ni (found[k].headD 0))) h := by
  refine ⟨by simp [clsD, atZ_nat, hk], ?_⟩
  cases e : found[k] with
  | nil => exact absurd e hn
  | cons x l => simp
theorem brk_le {A : Nat → Nat → Bool} {found : List (List Nat)} {m : Nat} : (brk A found m).length ≤ found.length := by
  have := List.length_filter_le (fun k => A m ((found[k]?.getD []).headD 0)) (List.range found.length)
  rw [List.length_range] at this
  exact this
theorem broken_ok (n b : Nat) (h : Hq) {rows : List (Str × List Int)} (hR : Rows rows) (hr : rows.length ≤ 24) {found : List (List Nat)} (fl : found.length ≤ 24) (fn : ∀ p ∈ found, p ≠ []) {m : Nat} (hm : m < rows.length) :
    callN tab (n + 2) b 3 [.d (histD rows), .d (clsD found), .d (.int m)] h = .ok (.d (.list ((brk (Ab rows) found m).map ni))) h := by
  rw [call_of (fd := f_broken_by) _ _ rfl rfl]
  have hl : evB .len [.d (clsD found)] h = .ok (.d (.int found.length)) h := by simp [clsD]
  simp [f_broken_by, ancestors_ok n b h hR hr hm, hl, rg_nat (n := found.length) (by omega)]
  rw [rangeUp_nat, lc_filter (p := fun k => Ab rows m ((found[k]?.getD []).headD 0)) (g := fun m => W.d (ni m))]
  · simp [brk]
  · intro k hk
    have hk := List.mem_range.mp hk
    obtain ⟨c1, c2⟩ := cls_at hk (fn _ (List.getElem_mem hk)) h
    have e := anc_in h (rows := rows) m (found[k].headD 0)
    simp only [Function.comp, c1, c2, b_ok, e, List.getElem?_eq_getElem hk, Option.getD_some, boolO_b]
    cases Ab rows m (found[k].headD 0) <;> rfl
/-- what the classes must be for the loops -/
structure Cl (rows : List (Str × List Int)) (found : List (List Nat)) : Prop where
  len : found.length ≤ 24
  ne : ∀ p ∈ found, p ≠ []
  lt : ∀ p ∈ found, ∀ x ∈ p, x < rows.length
theorem grp_cl {rows : List (Str × List Int)} (hr : rows.length ≤ 24) (key : Nat → List Bool) : Cl rows (grp key rows.length) := ⟨by have := grp_len key rows.length; omega, grp_ne key _, grp_lt key _⟩
end Ev

namespace Ev
open PySem
def good (A : Nat → Nat → Bool) (found : List (List Nat)) (M : List Nat) (m : Nat) : Bool := decide (true ∈ brow A found m) && decide (false ∈ brow A found m) && !decide (brow A found m ∈ M.map (brow A found))
def tsStep (A : Nat → Nat → Bool) (found : List (List Nat)) (M : List Nat) (m : Nat) : List Nat := if good A found M m then M ++ [m] else M
def tsts (A : Nat → Nat → Bool) (found : List (List Nat)) (T : List Nat) : List Nat := T.foldl (tsStep A found) []
theorem foldl_take {α β : Type} {f : β → α → β} {l : List α} {j : Nat} {x : α} (e : l[j]? = some x) (b : β) : (l.take (j + 1)).foldl f b = f ((l.take j).foldl f b) x := by
  rw [List.take_succ, e, List.foldl_append]
  rfl
theorem tsts_len (A : Nat → Nat → Bool) (found : List (List Nat)) : ∀ (T M : List Nat), (T.foldl (tsStep A found) M).length ≤ M.length + T.length
  | [], M => by simp
  | m :: T, M => by
    have := tsts_len A found T (tsStep A found M m)
    have h : (tsStep A found M m).length ≤ M.length + 1 := by unfold tsStep; split <;> simp
    rw [List.foldl_cons, List.length_cons]
    omega
theorem any_nlists {marks : List (List Nat)} {k : List Nat} : ((marks.map fun m => PyData.list (m.map ni)).any fun y => PyData.eqv y (.list (k.map ni))) = decide (k ∈ marks) := by
  rw [Bool.eq_iff_iff]
  simp only [List.any_map, List.any_eq_true, Function.comp, eqv_ln, decide_eq_true_eq]
  exact ⟨fun ⟨x, hx, e⟩ => e ▸ hx, fun hx => ⟨k, hx, rfl⟩⟩
theorem tests_ok (n b : Nat) (h0 : Hq) {rows : List (Str × List Int)} (hR : Rows rows) (hr : rows.length ≤ 24) (sk : List Nat) :
    callN tab (n + 3) b 4 [.d (histD rows), .d (skD sk)] h0 = .ok (.d (skD (tsts (Ab rows) (grp (keyOf (Ab rows) (tst rows.length sk)) rows.length) (tst rows.length sk)))) h0 := by
  rw [call_of (fd := f_tests) _ _ rfl rfl]
  have ce := classes_ok n h0.length h0 hR hr sk
  obtain ⟨found, hf⟩ : ∃ f, grp (keyOf (Ab rows) (tst rows.length sk)) rows.length = f := ⟨_, rfl⟩
  have cl := grp_cl hr (keyOf (Ab rows) (tst rows.length sk))
  rw [hf] at ce cl ⊢
  obtain ⟨T, hT⟩ : ∃ T, tst rows.length sk = T := ⟨_, rfl⟩
  have tlt : ∀ m ∈ T, m < rows.length := fun m hm => tst_lt (hT ▸ hm)
  have tlen : T.length ≤ 24 := by
    rw [← hT]
    have := List.length_filter_le (fun m => !decide (m ∈ sk)) (List.range rows.length)
    rw [List.length_range] at this
    unfold tst
    omega
  have te := testable_ok (n + 1) h0.length (h0 ++ [.lst [], .lst []]) hr sk
  rw [hT] at te ⊢
  have hlen : ∀ h, evB .len [.d (clsD found)] h = .ok (.d (.int found.length)) h := fun h => by simp [clsD]
  show finR true h0.length (evSs h0.length (callN tab (n + 2)) f_tests.body [some (.d (histD rows)), some (.d (skD sk)), none, none, none, none, none] h0) = _
  obtain ⟨env', h', e3, x5, x6, rfl, rfl⟩ := for_list (f := fun w env h => evSs h0.length (callN tab (n + 2)) tests_b0 (env.set 5 (some w)) h) (emb := W.d ∘ ni) T (fun j env h => ∃ x5 x6 : Option W, env = [some (.d (histD rows)), some (.d (skD sk)), some (.d (clsD found)), some (.l h0.length), some (.l (h0.length + 1)), x5, x6] ∧
      h = h0 ++ [.lst ((((T.take j).foldl (tsStep (Ab rows) found) []).map (brk (Ab rows) found)).map fun r => .list (r.map ni)), .lst (((T.take j).foldl (tsStep (Ab rows) found) []).map ni)])
    (env := [some (.d (histD rows)), some (.d (skD sk)), some (.d (clsD found)), some (.l h0.length), some (.l (h0.length + 1)), none, none]) (h := h0 ++ [.lst [], .lst []]) ⟨none, none, rfl, rfl⟩ fun j m env h ej i => by
      obtain ⟨x5, x6, rfl, rfl⟩ := i
      have hm := tlt m (List.mem_of_getElem? ej)
      obtain ⟨M, hM⟩ : ∃ M, (T.take j).foldl (tsStep (Ab rows) found) [] = M := ⟨_, rfl⟩
      have ml : M.length ≤ 24 := by
        have := tsts_len (Ab rows) found (T.take j) []
        rw [hM, List.length_take] at this
        simp at this
        omega
      rw [foldl_take ej, hM]
      have be := broken_ok n h0.length (h0 ++ [.lst ((M.map (brk (Ab rows) found)).map fun r => .list (r.map ni)), .lst (M.map ni)]) hR hr cl.len cl.ne hm
      obtain ⟨row, hrow⟩ : ∃ r, brk (Ab rows) found m = r := ⟨_, rfl⟩
      have nin : cmpW .NotIn (.d (.list (row.map ni))) (.l h0.length) (h0 ++ [.lst ((M.map (brk (Ab rows) found)).map fun r => .list (r.map ni)), .lst (M.map ni)]) = .ok (.d (.bool (!decide (row ∈ M.map (brk (Ab rows) found))))) (h0 ++ [.lst ((M.map (brk (Ab rows) found)).map fun r => .list (r.map ni)), .lst (M.map ni)]) := by
        rw [cmp_dl at2_0, nin_l dpt_ln, any_nlists]
        rfl
      have gd : good (Ab rows) found M m = (decide (0 < row.length) && decide (row.length < found.length) && !decide (row ∈ M.map (brk (Ab rows) found))) := by
        have q1 : decide (true ∈ brow (Ab rows) found m) = decide (0 < row.length) := by rw [decide_eq_decide, ← hrow]; exact brk_pos.symm
        have q2 : decide (false ∈ brow (Ab rows) found m) = decide (row.length < found.length) := by rw [decide_eq_decide, ← hrow]; exact brk_lt.symm
        have q3 : decide (brow (Ab rows) found m ∈ M.map (brow (Ab rows) found)) = decide (row ∈ M.map (brk (Ab rows) found)) := by
          rw [decide_eq_decide, ← hrow]
          simp only [List.mem_map]
          exact ⟨fun ⟨a, h1, h2⟩ => ⟨a, h1, brk_brow.mpr h2⟩, fun ⟨a, h1, h2⟩ => ⟨a, h1, brk_brow.mp h2⟩⟩
        unfold good
        rw [q1, q2, q3]
      rw [hrow] at be
      have l1 : ((M.map (brk (Ab rows) found)).map fun r => PyData.list (r.map ni)).length < 1000000 := by simp; omega
      have l2 : (M.map ni).length < 1000000 := by simp; omega
      have c1 : ∀ h, cmpW .Lt (.d (.int 0)) (.d (.int (row.length : Nat))) h = .ok (.d (.bool (decide (0 < row.length)))) h := fun h => by simp
      have c2 : ∀ h, cmpW .Lt (.d (.int (row.length : Nat))) (.d (.int (found.length : Nat))) h = .ok (.d (.bool (decide (row.length < found.length)))) h := fun h => by simp
      show ∃ env' h', evSs h0.length (callN tab (n + 2)) tests_b0 [some (.d (histD rows)), some (.d (skD sk)), some (.d (clsD found)), some (.l h0.length), some (.l (h0.length + 1)), some (.d (.int m)), x6] _ = .ok (.nx env') h' ∧ _
      unfold tests_b0
      rw [seq_nx (s := tests_b0_s0) (h' := h0 ++ [.lst ((M.map (brk (Ab rows) found)).map fun r => .list (r.map ni)), .lst (M.map ni)]) (env' := [some (.d (histD rows)), some (.d (skD sk)), some (.d (clsD found)), some (.l h0.length), some (.l (h0.length + 1)), some (.d (.int m)), some (.d (.list (row.map ni)))]) (by simp only [s_asg, x_call, x_cons, x_var, x_nil, List.getElem?_cons_succ, List.getElem?_cons_zero, b_ok, be, bind_1, List.set_cons_succ, List.set_cons_zero])]
      unfold tsStep
      rw [gd]
      by_cases g1 : 0 < row.length
      · by_cases g2 : row.length < found.length
        · by_cases g3 : row ∈ M.map (brk (Ab rows) found)
          · refine ⟨_, _, ?_, some (.d (.int m)), some (.d (.list (row.map ni))), rfl, rfl⟩
            simp only [s_cons, s_ifs, x_and, x_cmp2, x_lit, x_blt, x_cons, x_nil, x_var, List.getElem?_cons_succ, List.getElem?_cons_zero, b_ok, len_l, List.length_map, c1, c2, g1, g2, g3, decide_true, hlen, x_one, x_cmp, nin, Bool.not_true, s_nil, Bool.and_false, Bool.false_eq_true, if_false]
          · refine ⟨_, _, ?_, some (.d (.int m)), some (.d (.list (row.map ni))), rfl, rfl⟩
            simp only [s_cons, s_ifs, x_and, x_cmp2, x_lit, x_blt, x_cons, x_nil, x_var, List.getElem?_cons_succ, List.getElem?_cons_zero, b_ok, len_l, List.length_map, c1, c2, g1, g2, g3, decide_true, decide_false, hlen, x_one, x_cmp, nin, Bool.not_false, Bool.and_true, Bool.and_self, if_true, tests_b1, s_app, recvL_o at2_0, recvL_o at2_1, app_o at2_0 l1, app_o at2_1 l2, set2_0, set2_1, s_nil]
            simp [hrow]
        · refine ⟨_, _, ?_, some (.d (.int m)), some (.d (.list (row.map ni))), rfl, rfl⟩
          simp only [s_cons, s_ifs, x_and, x_cmp2, x_lit, x_blt, x_cons, x_nil, x_var, List.getElem?_cons_succ, List.getElem?_cons_zero, b_ok, len_l, List.length_map, c1, c2, g1, g2, decide_true, decide_false, hlen, s_nil, Bool.and_false, Bool.false_and, Bool.false_eq_true, if_false]
      · refine ⟨_, _, ?_, some (.d (.int m)), some (.d (.list (row.map ni))), rfl, rfl⟩
        simp only [s_cons, s_ifs, x_and, x_cmp2, x_lit, x_blt, x_cons, x_nil, x_var, List.getElem?_cons_succ, List.getElem?_cons_zero, b_ok, len_l, List.length_map, c1, c2, g1, decide_true, decide_false, hlen, s_nil, Bool.and_false, Bool.false_and, Bool.false_eq_true, if_false]
  unfold f_tests
  simp only
  rw [seq_nx (s := tests_s0) (env' := [some (.d (histD rows)), some (.d (skD sk)), some (.d (clsD found)), none, none, none, none]) (h' := h0) (by simp [ce]),
    seq_nx (s := tests_s1) (env' := [some (.d (histD rows)), some (.d (skD sk)), some (.d (clsD found)), some (.l h0.length), none, none, none]) (h' := h0 ++ [.lst []]) (by simp),
    seq_nx (s := tests_s2) (env' := [some (.d (histD rows)), some (.d (skD sk)), some (.d (clsD found)), some (.l h0.length), some (.l (h0.length + 1)), none, none]) (h' := h0 ++ [.lst [], .lst []]) (by simp),
    seq_nx (s := tests_s3) (env' := [some (.d (histD rows)), some (.d (skD sk)), some (.d (clsD found)), some (.l h0.length), some (.l (h0.length + 1)), x5, x6]) (h' := h0 ++ [.lst (((tsts (Ab rows) found T).map (brk (Ab rows) found)).map fun r => .list (r.map ni)), .lst ((tsts (Ab rows) found T).map ni)]) (by
      rw [List.take_length] at e3
      simp only [s_for, x_ite, x_call, x_cons, x_var, x_nil, List.getElem?_cons_succ, List.getElem?_cons_zero, b_ok, te, it_l, live_d, kpt_n, List.map_map, bind_1, e3, tsts])]
  simp [tup_o at2_1, skD]
end Ev

namespace Ev
open PySem
def wd (br : Bool) : Str := if br then "broken" else "works"
end Ev

namespace Ev
open PySem
def stD (st : List Int) : PyData := .tuple (st.map .int)
def low (st : List Int) (p : Nat → Bool) : List Int := (List.range st.length).map fun k => max (-1) (st[k]?.getD 0 - if p k then 1 else 0)
theorem low_len {st : List Int} {p : Nat → Bool} : (low st p).length = st.length := by simp [low]
theorem max_2 {i j : Int} {h : Hq} : evB .max [.d (.int i), .d (.int j)] h = .ok (.d (.int (max i j))) h := by
  have : (if j > i then j else i) = max i j := by split <;> omega
  simp only [evB, this]
theorem st_at {st : List Int} {k : Nat} (hk : k < st.length) (h : Hq) : evIdx h (.d (stD st)) (.d (.int k)) = .ok (.d (.int (st[k]?.getD 0))) h := by
  simp [stD, atZ_nat, hk]
theorem lowered_ok (n b : Nat) (h : Hq) {st : List Int} (hs : st.length ≤ 24) (row : List Nat) :
    callN tab (n + 1) b 6 [.d (stD st), .d (.list (row.map ni))] h = .ok (.d (stD (low st fun k => decide (k ∈ row)))) h := by
  rw [call_of (fd := f_lowered) _ _ rfl rfl]
  have ln : evB .len [.d (stD st)] h = .ok (.d (.int st.length)) h := by simp [stD]
  simp [f_lowered, ln, rg_nat (n := st.length) (by omega)]
  rw [rangeUp_nat, lc_map (g := fun k => W.d (.int (max (-1) (st[k]?.getD 0 - if decide (k ∈ row) then 1 else 0))))]
  · simp [stD, low, Function.comp_def]
  · intro k hk
    have hk := List.mem_range.mp hk
    simp [st_at hk, max_2]
theorem against_row_ok (n b : Nat) (h : Hq) {N : Nat} (hN : N ≤ 24) (row : List Nat) (br : Bool) :
    callN tab (n + 1) b 7 [.d (.int N), .d (.list (row.map ni)), .d (.str (wd br))] h = .ok (.d (.list ((if br then (List.range N).filter fun k => !decide (k ∈ row) else row).map ni))) h := by
  rw [call_of (fd := f_against_row) _ _ rfl rfl]
  cases br
  · simp [f_against_row, wd, against_row_b0]
  · have : ("broken" : Str) ≠ "works" := by decide
    simp [f_against_row, wd, this, rg_nat (n := N) (by omega)]
    rw [rangeUp_nat, lc_filter (p := fun k => !decide (k ∈ row)) (g := fun k => W.d (ni k))]
    · simp
    · intro k _
      by_cases hk : k ∈ row <;> simp [hk]
theorem low_congr {st : List Int} {p q : Nat → Bool} (h : ∀ k, k < st.length → p k = q k) : low st p = low st q := by
  unfold low
  exact List.map_congr_left fun k hk => by rw [h k (List.mem_range.mp hk)]
end Ev

namespace Ev
open PySem
def fnd (rows : List (Str × List Int)) (sk : List Nat) : List (List Nat) := grp (keyOf (Ab rows) (tst rows.length sk)) rows.length
theorem fnd_len {rows : List (Str × List Int)} {sk : List Nat} : (fnd rows sk).length ≤ rows.length := grp_len _ _
theorem start_ok (n b : Nat) (h : Hq) {rows : List (Str × List Int)} (hR : Rows rows) (hr : rows.length ≤ 24) (sk : List Nat) (k : Int) :
    callN tab (n + 3) b 5 [.d (histD rows), .d (skD sk), .d (.int k)] h = .ok (.d (stD (List.replicate (fnd rows sk).length k))) h := by
  rw [call_of (fd := f_start) _ _ rfl rfl]
  have ce := classes_ok n b h hR hr sk
  have fl := fnd_len (rows := rows) (sk := sk)
  have rp : ∀ N : Nat, N ≤ 24 → evBin .Mult (.tuple [.int k]) (.int N) = some (.tuple (List.replicate N (.int k))) := fun N hN => by
    have g : repTOk [PyData.int k].length (N : Int) = true := by unfold repTOk; rw [decide_eq_true_eq]; simp; omega
    have e : repL [PyData.int k] (N : Int) = List.replicate N (.int k) := by
      unfold repL
      rw [Int.toNat_natCast]
      clear g hN
      induction N with
      | zero => rfl
      | succ N ih => rw [List.replicate_succ, List.flatten_cons, ih, List.replicate_succ]; rfl
    simp only [evBin, g, if_true, e]
  have ln : ∀ f, evB .len [.d (clsD f)] h = .ok (.d (.int f.length)) h := fun f => by simp [clsD]
  unfold fnd at fl ⊢
  simp [f_start, ce, ln, rp _ (Nat.le_trans fl hr), stD]
end Ev

namespace Ev
open PySem
def hd (found : List (List Nat)) (k : Nat) : Nat := (found[k]?.getD []).headD 0
/-- the state behind an answer -/
def aft (rows : List (Str × List Int)) (sk : List Nat) (st : List Int) (m : Nat) (br : Bool) : List Int := low st fun k => Ab rows m (hd (fnd rows sk) k) != br
theorem after_ok (n b : Nat) (h : Hq) {rows : List (Str × List Int)} (hR : Rows rows) (hr : rows.length ≤ 24) {sk : List Nat} {st : List Int} (hs : st.length = (fnd rows sk).length) {m : Nat} (hm : m < rows.length) (br : Bool) :
    callN tab (n + 3) b 8 [.d (histD rows), .d (skD sk), .d (stD st), .d (.tuple [.str (wd br), .int m])] h = .ok (.d (stD (aft rows sk st m br))) h := by
  rw [call_of (fd := f_after) _ _ rfl rfl]
  have ce := classes_ok n b h hR hr sk
  have fl := fnd_len (rows := rows) (sk := sk)
  have cl := grp_cl hr (keyOf (Ab rows) (tst rows.length sk))
  have be := broken_ok n b h hR hr cl.len cl.ne hm
  have ln : evB .len [.d (stD st)] h = .ok (.d (.int st.length)) h := by simp [stD]
  have ar := against_row_ok (n + 1) b h (N := st.length) (by omega) (brk (Ab rows) (fnd rows sk) m) br
  have lo := lowered_ok (n + 1) b h (st := st) (by omega) (if br then (List.range st.length).filter fun k => !decide (k ∈ brk (Ab rows) (fnd rows sk) m) else brk (Ab rows) (fnd rows sk) m)
  unfold fnd at ar lo
  simp [f_after, ce, be, ln, ar, lo]
  unfold aft
  refine congrArg stD (low_congr fun k hk => ?_)
  have mem : decide (k ∈ brk (Ab rows) (fnd rows sk) m) = Ab rows m (hd (fnd rows sk) k) := by
    rw [Bool.eq_iff_iff, decide_eq_true_eq]
    unfold brk hd
    simp only [List.mem_filter, List.mem_range]
    exact ⟨fun z => z.2, fun z => ⟨by omega, z⟩⟩
  unfold fnd at mem
  cases br
  · simp only [Bool.false_eq_true, if_false]
    rw [mem]
    simp [fnd]
  · simp only [if_true]
    have : decide (k ∈ (List.range st.length).filter fun k => !decide (k ∈ brk (Ab rows) (grp (keyOf (Ab rows) (tst rows.length sk)) rows.length) m)) = !decide (k ∈ brk (Ab rows) (grp (keyOf (Ab rows) (tst rows.length sk)) rows.length) m) := by
      simp [hk]
    rw [this, mem]
    simp [fnd]
end Ev

namespace Ev
open PySem
/-! what the classes are -/
def fir (key : Nat → List Bool) (x : Nat) : Bool := (List.range x).all fun y => !decide (key y = key x)
def clo (key : Nat → List Bool) (n x : Nat) : List Nat := (List.range n).filter fun y => decide (key y = key x)
theorem fir_iff {key : Nat → List Bool} {x : Nat} : fir key x = true ↔ ∀ y, y < x → key y ≠ key x := by
  unfold fir
  simp only [List.all_eq_true, List.mem_range, Bool.not_eq_true', decide_eq_false_iff_not, ne_eq]
theorem mem_clo {key : Nat → List Bool} {n x y : Nat} : y ∈ clo key n x ↔ y < n ∧ key y = key x := by simp [clo]
theorem clo_head {key : Nat → List Bool} {n x : Nat} (hx : x < n) (f : fir key x = true) : (clo key n x).headD 0 = x := by
  unfold clo
  rw [List.headD_eq_head?_getD, List.head?_filter]
  have : (List.range n).find? (fun y => decide (key y = key x)) = some x := by
    rw [List.find?_range_eq_some]
    refine ⟨by simp, List.mem_range.mpr hx, fun y hy => ?_⟩
    simpa using fir_iff.mp f y hy
  rw [this]
  rfl
theorem fir_ex {key : Nat → List Bool} {n y : Nat} (hy : y < n) : ∃ x, x ∈ (List.range n).filter (fir key) ∧ key x = key y := by
  cases h : (List.range n).find? fun z => decide (key z = key y) with
  | none =>
    rw [List.find?_eq_none] at h
    exact absurd (decide_eq_true rfl) (h y (List.mem_range.mpr hy))
  | some x =>
    rw [List.find?_range_eq_some] at h
    obtain ⟨h1, h2, h3⟩ := h
    have h1 : key x = key y := of_decide_eq_true h1
    refine ⟨x, List.mem_filter.mpr ⟨h2, fir_iff.mpr fun z hz e => ?_⟩, h1⟩
    have := h3 z hz
    simp [e.trans h1] at this
theorem grp_eq (key : Nat → List Bool) : ∀ n, grp key n = ((List.range n).filter (fir key)).map (clo key n)
  | 0 => rfl
  | n + 1 => by
    have ih := grp_eq key n
    obtain ⟨F, hF⟩ : ∃ F, (List.range n).filter (fir key) = F := ⟨_, rfl⟩
    have Fm : ∀ x ∈ F, x < n ∧ fir key x = true := fun x hx => by
      rw [← hF] at hx
      have := List.mem_filter.mp hx
      exact ⟨List.mem_range.mp this.1, this.2⟩
    have Fe : ∀ y, y < n → ∃ x ∈ F, key x = key y := fun y hy => hF ▸ fir_ex hy
    have Fd : ∀ x ∈ F, ∀ y ∈ F, key x = key y → x = y := fun x hx y hy e => by
      obtain ⟨_, fx⟩ := Fm x hx
      obtain ⟨_, fy⟩ := Fm y hy
      rcases Nat.lt_trichotomy x y with h | h | h
      · exact absurd e (fir_iff.mp fy x h)
      · exact h
      · exact absurd e.symm (fir_iff.mp fx y h)
    have Fn : F.Nodup := by rw [← hF]; exact List.nodup_range.filter _
    rw [hF] at ih
    have ga : gAt key (grp key n) n = F.findIdx? fun x => decide (key x = key n) := by
      unfold gAt
      rw [ih, List.findIdx?_map]
      have : ∀ l : List Nat, (∀ x ∈ l, x ∈ F) → l.findIdx? ((fun p : List Nat => decide (key (p.headD 0) = key n)) ∘ clo key n) = l.findIdx? fun x => decide (key x = key n) := fun l => by
        induction l with
        | nil => intro _; rfl
        | cons x l ih =>
          intro h
          obtain ⟨h1, h2⟩ := Fm x (h x List.mem_cons_self)
          rw [List.findIdx?_cons, List.findIdx?_cons, Function.comp, clo_head h1 h2, ih fun y hy => h y (List.mem_cons_of_mem _ hy)]
      exact this F fun _ h => h
    rw [show grp key (n + 1) = gStep key (grp key n) n from rfl]
    unfold gStep
    rw [ga, List.range_succ, List.filter_append, hF]
    have cs : ∀ x, clo key (n + 1) x = clo key n x ++ if key n = key x then [n] else [] := fun x => by
      unfold clo
      rw [List.range_succ, List.filter_append]
      by_cases h : key n = key x <;> simp [h]
    cases hi : F.findIdx? fun x => decide (key x = key n) with
    | none =>
      rw [List.findIdx?_eq_none_iff] at hi
      have hi : ∀ x ∈ F, key x ≠ key n := fun x hx => by simpa using hi x hx
      have fn : fir key n = true := fir_iff.mpr fun y hy e => by
        obtain ⟨x, hx, e2⟩ := Fe y hy
        exact hi x hx (e2.trans e)
      have e1 : [n].filter (fir key) = [n] := by simp [fn]
      simp only
      rw [e1, ih, List.map_append]
      refine congr (congrArg _ (List.map_congr_left fun x hx => ?_)) ?_
      · rw [cs, if_neg (fun e => hi x hx e.symm), List.append_nil]
      · have : clo key n n = [] := by
          unfold clo
          rw [List.filter_eq_nil_iff]
          intro y hy
          simpa using fir_iff.mp fn y (List.mem_range.mp hy)
        simp [cs, this]
    | some i =>
      obtain ⟨hl, h1, h2⟩ := List.findIdx?_eq_some_iff_getElem.mp hi
      have h1 : key F[i] = key n := of_decide_eq_true h1
      obtain ⟨xl, xf⟩ := Fm F[i] (List.getElem_mem hl)
      have fn : ¬ fir key n = true := fun z => fir_iff.mp z _ xl h1
      have e1 : [n].filter (fir key) = [] := by simp [fn]
      simp only
      rw [e1, List.append_nil, ih]
      apply List.ext_getElem?
      intro j
      rw [List.getElem?_set]
      by_cases hij : i = j
      · subst hij
        have hl2 : i < (F.map (clo key n)).length := by simpa using hl
        simp only [hl2, if_true, List.getElem?_map, List.getElem?_eq_getElem hl, Option.map_some, Option.getD_some, cs, if_pos h1.symm]
      · rw [if_neg hij]
        simp only [List.getElem?_map]
        by_cases hj : j < F.length
        · simp only [List.getElem?_eq_getElem hj, Option.map_some, cs]
          rw [if_neg, List.append_nil]
          intro e
          have := Fd F[i] (List.getElem_mem hl) F[j] (List.getElem_mem hj) (h1.trans e)
          have pw := List.pairwise_iff_getElem.mp Fn
          rcases Nat.lt_or_gt_of_ne hij with z | z
          · exact pw i j hl hj z this
          · exact pw j i hj hl z this.symm
        · rw [List.getElem?_eq_none (by omega)]
          rfl
theorem grp_mem {key : Nat → List Bool} {n : Nat} {p : List Nat} (hp : p ∈ grp key n) {x : Nat} (hx : x ∈ p) : p = clo key n x := by
  rw [grp_eq] at hp
  obtain ⟨z, _, rfl⟩ := List.mem_map.mp hp
  have := (mem_clo.mp hx).2
  unfold clo
  rw [this]
theorem grp_ex {key : Nat → List Bool} {n x : Nat} (hx : x < n) : clo key n x ∈ grp key n := by
  rw [grp_eq]
  obtain ⟨z, hz, e⟩ := fir_ex (key := key) hx
  refine List.mem_map.mpr ⟨z, hz, ?_⟩
  unfold clo
  rw [e]
end Ev

namespace Ev
open PySem
/-! states: who is inside, useful rows, the least depth (value) -/
def ones (st : List Int) : List Nat := (List.range st.length).filter fun k => decide (0 ≤ st[k]?.getD 0)
def usef (st : List Int) (row : List Nat) : Bool := decide (0 < ((ones st).filter fun k => decide (k ∈ row)).length) && decide (((ones st).filter fun k => decide (k ∈ row)).length < (ones st).length)
def lo1 (st : List Int) (row : List Nat) : List Int := low st fun k => !decide (k ∈ row)
def lo2 (st : List Int) (row : List Nat) : List Int := low st fun k => decide (k ∈ row)
def rwsD (rs : List (Nat × List Nat)) : PyData := .list (rs.map fun r => .tuple [.int r.1, .list (r.2.map ni)])
theorem st_len {st : List Int} (h : Hq) : evB .len [.d (stD st)] h = .ok (.d (.int st.length)) h := by simp [stD]
theorem ones_ok (n b : Nat) (h : Hq) {st : List Int} (hs : st.length ≤ 24) : callN tab (n + 1) b 11 [.d (stD st)] h = .ok (.d (.list ((ones st).map ni))) h := by
  rw [call_of (fd := f_ones_in) _ _ rfl rfl]
  simp [f_ones_in, st_len, rg_nat (n := st.length) (by omega)]
  rw [rangeUp_nat, lc_filter (p := fun k => decide (0 ≤ st[k]?.getD 0)) (g := fun k => W.d (ni k))]
  · simp [ones]
  · intro k hk
    have hk := List.mem_range.mp hk
    by_cases hv : 0 ≤ st[k]?.getD 0 <;> simp [st_at hk, hv]
theorem is_useful_ok (n b : Nat) (h : Hq) {st : List Int} (hs : st.length ≤ 24) (row : List Nat) : callN tab (n + 2) b 12 [.d (stD st), .d (.list (row.map ni))] h = .ok (.d (.bool (usef st row))) h := by
  rw [call_of (fd := f_is_useful) _ _ rfl rfl]
  obtain ⟨m, hm⟩ : ∃ m, ((ones st).filter fun k => decide (k ∈ row)).length = m := ⟨_, rfl⟩
  obtain ⟨t, ht⟩ : ∃ t, (ones st).length = t := ⟨_, rfl⟩
  have a1 : evS b (callN tab (n + 1)) is_useful_s1 [some (.d (stD st)), some (.d (.list (row.map ni))), some (.d (.list ((ones st).map ni))), none, none] h = .ok (.nx [some (.d (stD st)), some (.d (.list (row.map ni))), some (.d (.list ((ones st).map ni))), some (.d (.int m)), none]) h := by
    simp
    rw [lc_filter (emb := W.d ∘ ni) (p := fun k => decide (k ∈ row)) (g := fun k => W.d (ni k))]
    · simp [hm]
    · intro k _
      by_cases hk : k ∈ row <;> simp [hk]
  show finR false h.length (evSs b (callN tab (n + 1)) f_is_useful.body [some (.d (stD st)), some (.d (.list (row.map ni))), none, none, none] h) = _
  unfold f_is_useful
  simp only
  rw [seq_nx (s := is_useful_s0) (env' := [some (.d (stD st)), some (.d (.list (row.map ni))), some (.d (.list ((ones st).map ni))), none, none]) (h' := h) (by simp [ones_ok n b h hs]), seq_nx a1]
  unfold usef
  rw [hm, ht]
  by_cases h1 : 0 < m <;> by_cases h2 : m < t <;> simp [h1, h2, ht]
theorem both_after_ok (n b : Nat) (h : Hq) {st : List Int} (hs : st.length ≤ 24) (row : List Nat) : callN tab (n + 2) b 13 [.d (stD st), .d (.list (row.map ni))] h = .ok (.d (.list [stD (lo1 st row), stD (lo2 st row)])) h := by
  rw [call_of (fd := f_both_after) _ _ rfl rfl]
  have a1 := against_row_ok n b h (N := st.length) hs row true
  have a2 := against_row_ok n b h (N := st.length) hs row false
  simp only [wd, if_true, Bool.false_eq_true, if_false] at a1 a2
  have l1 := lowered_ok n b h hs ((List.range st.length).filter fun k => !decide (k ∈ row))
  have l2 := lowered_ok n b h hs row
  have e1 : low st (fun k => decide (k ∈ (List.range st.length).filter fun k => !decide (k ∈ row))) = lo1 st row := low_congr fun k hk => by simp [hk]
  rw [e1] at l1
  simp only [f_both_after, s_cons, s_asg, x_blt, x_cons, x_var, x_nil]
  simp only [List.map_cons, List.map_nil, List.cons_append, List.nil_append, List.replicate, List.getElem?_cons_succ, List.getElem?_cons_zero, b_ok, st_len, bind_1, List.set_cons_succ, List.set_cons_zero, s_ret, x_lst, x_cons, x_call, x_var, x_nil, x_lit, Bool.false_eq_true, if_false, a1, a2, l1, l2, allD_0, allD_c, Option.map_some, finR_rt, fin_f]
  rfl
/-- how far a state is from nobody -/
def pot (st : List Int) : Nat := ((List.range st.length).map fun k => (st[k]?.getD 0 + 1).toNat).sum
theorem pot_low (st : List Int) (p : Nat → Bool) : pot (low st p) = ((List.range st.length).map fun k => (st[k]?.getD 0 + 1).toNat - if p k then 1 else 0).sum := by
  unfold pot
  rw [low_len]
  refine congrArg List.sum (List.map_congr_left fun k hk => ?_)
  have hk := List.mem_range.mp hk
  unfold low
  rw [List.getElem?_map, List.getElem?_range hk, Option.map_some, Option.getD_some]
  cases p k
  · simp; omega
  · simp; omega
theorem sum_lt' {l : List Nat} {f g : Nat → Nat} (h : ∀ x ∈ l, f x ≤ g x) : (l.map f).sum ≤ (l.map g).sum := by
  induction l with
  | nil => simp
  | cons x l ih =>
    have h1 := h x List.mem_cons_self
    have h2 := ih fun y hy => h y (List.mem_cons_of_mem _ hy)
    simp only [List.map_cons, List.sum_cons]
    omega
theorem sum_lt {l : List Nat} {f g : Nat → Nat} (h : ∀ x ∈ l, f x ≤ g x) {y : Nat} (hy : y ∈ l) (e : f y < g y) : (l.map f).sum < (l.map g).sum := by
  induction l with
  | nil => cases hy
  | cons x l ih =>
    have h1 := h x List.mem_cons_self
    have h3 := sum_lt' fun y hy => h y (List.mem_cons_of_mem _ hy)
    simp only [List.map_cons, List.sum_cons]
    rcases List.mem_cons.mp hy with rfl | hy
    · omega
    · have := ih (fun y hy => h y (List.mem_cons_of_mem _ hy)) hy
      omega
theorem pot_lt {st : List Int} {p : Nat → Bool} {k : Nat} (hk : k ∈ ones st) (hp : p k = true) : pot (low st p) < pot st := by
  rw [pot_low]
  have hm := List.mem_filter.mp hk
  have hv : 0 ≤ st[k]?.getD 0 := of_decide_eq_true hm.2
  refine sum_lt (fun x _ => Nat.sub_le _ _) hm.1 ?_
  rw [hp]
  simp only [if_true]
  omega
theorem usef_pot {st : List Int} {row : List Nat} (h : usef st row = true) : pot (lo1 st row) < pot st ∧ pot (lo2 st row) < pot st := by
  unfold usef at h
  rw [Bool.and_eq_true, decide_eq_true_eq, decide_eq_true_eq] at h
  obtain ⟨h1, h2⟩ := h
  constructor
  · obtain ⟨k, hk, hn⟩ : ∃ k ∈ ones st, ¬ k ∈ row := by
      apply Classical.byContradiction
      intro z
      have : (ones st).filter (fun k => decide (k ∈ row)) = ones st := List.filter_eq_self.mpr fun k hk => by
        apply Classical.byContradiction
        intro q
        exact z ⟨k, hk, by simpa using q⟩
      rw [this] at h2
      omega
    exact pot_lt hk (by simp [hn])
  · obtain ⟨k, hk⟩ := List.exists_mem_of_length_pos h1
    have hk := List.mem_filter.mp hk
    exact pot_lt hk.1 (by simpa using hk.2)
/-- the best so far, one row more -/
def vst (g : List Int → Int) (st : List Int) (best : Int) (row : List Nat) : Int := if usef st row then (if best < 0 ∨ 1 + max (g (lo1 st row)) (g (lo2 st row)) < best then 1 + max (g (lo1 st row)) (g (lo2 st row)) else best) else best
def Vf (rs : List (Nat × List Nat)) : Nat → List Int → Int
  | 0, _ => 0
  | f + 1, st => if (ones st).length ≤ 1 then 0 else rs.foldl (fun best r => vst (Vf rs f) st best r.2) (-1)
def V (rs : List (Nat × List Nat)) (st : List Int) : Int := Vf rs (pot st + 1) st
theorem vst_congr {g g' : List Int → Int} {st : List Int} {row : List Nat} (h : usef st row = true → g (lo1 st row) = g' (lo1 st row) ∧ g (lo2 st row) = g' (lo2 st row)) (best : Int) : vst g st best row = vst g' st best row := by
  unfold vst
  by_cases hu : usef st row = true
  · obtain ⟨e1, e2⟩ := h hu
    rw [e1, e2]
  · simp only [hu, if_false]
    rfl
theorem fold_congr {α β : Type} {f g : β → α → β} : ∀ (l : List α) (b : β), (∀ x ∈ l, ∀ b, f b x = g b x) → l.foldl f b = l.foldl g b
  | [], _, _ => rfl
  | x :: l, b, h => by rw [List.foldl_cons, List.foldl_cons, h x List.mem_cons_self, fold_congr l _ fun y hy => h y (List.mem_cons_of_mem _ hy)]
theorem Vf_eq (rs : List (Nat × List Nat)) : ∀ (f f' : Nat) (st : List Int), pot st < f → pot st < f' → Vf rs f st = Vf rs f' st
  | 0, _, _, h, _ => by omega
  | _, 0, _, _, h => by omega
  | f + 1, f' + 1, st, h1, h2 => by
    unfold Vf
    split
    · rfl
    · exact fold_congr rs _ fun r _ b => vst_congr (fun hu => by
        obtain ⟨p1, p2⟩ := usef_pot hu
        exact ⟨Vf_eq rs f f' _ (by omega) (by omega), Vf_eq rs f f' _ (by omega) (by omega)⟩) b
theorem V_eq (rs : List (Nat × List Nat)) (st : List Int) : V rs st = if (ones st).length ≤ 1 then 0 else rs.foldl (fun best r => vst (V rs) st best r.2) (-1) := by
  show Vf rs (pot st + 1) st = _
  unfold Vf
  split
  · rfl
  · exact fold_congr rs _ fun r _ b => vst_congr (fun hu => by
      obtain ⟨p1, p2⟩ := usef_pot hu
      exact ⟨Vf_eq rs _ _ _ (by omega) (by omega), Vf_eq rs _ _ _ (by omega) (by omega)⟩) b
end Ev

namespace Ev
open PySem
/-- a state of N numbers from -1 to M -/
def Dom (N : Nat) (M : Int) (s : List Int) : Prop := s.length = N ∧ ∀ x ∈ s, -1 ≤ x ∧ x ≤ M
theorem dom_low {N : Nat} {M : Int} (hM : -1 ≤ M) {s : List Int} (h : Dom N M s) (p : Nat → Bool) : Dom N M (low s p) := by
  refine ⟨low_len.trans h.1, fun x hx => ?_⟩
  unfold low at hx
  obtain ⟨k, hk, rfl⟩ := List.mem_map.mp hx
  have hk := List.mem_range.mp hk
  have := h.2 _ (List.getElem_mem hk)
  rw [List.getElem?_eq_getElem hk, Option.getD_some]
  split <;> omega
/-- what is known -/
def kv (rs : List (Nat × List Nat)) (L : List (List Int)) : List (PyData × PyData) := L.map fun s => (stD s, .int (V rs s))
theorem kv_get (rs : List (Nat × List Nat)) (s : List Int) : ∀ L : List (List Int), dget (kv rs L) (stD s) = if s ∈ L then some (.int (V rs s)) else none
  | [] => rfl
  | t :: L => by
    have ih := kv_get rs s L
    unfold dget kv at ih ⊢
    rw [List.map_cons, List.find?_cons]
    have ke : keyEq (stD t) (stD s) = decide (t = s) := keyEq_ti
    simp only [ke]
    by_cases e : t = s
    · subst e; simp
    · have e' : ¬ s = t := fun z => e z.symm
      simp only [e, decide_false, List.mem_cons, e', false_or]
      exact ih
theorem kv_put {rs : List (Nat × List Nat)} {s : List Int} {L : List (List Int)} (h : s ∉ L) : dput (kv rs L) (stD s) (.int (V rs s)) = kv rs (L ++ [s]) := by
  unfold dput
  rw [kv_get, if_neg h]
  simp [kv]
theorem isKey_st {s : List Int} : isKey (stD s) = true := isKey_ti
theorem set_self {h : Hq} {p : Nat} {o : Ob} (e : h[p]? = some o) : h.set p o = h := by
  apply List.ext_getElem?
  intro i
  rw [List.getElem?_set]
  split
  · rename_i z; subst z
    have := (List.getElem?_eq_some_iff.mp e).1
    rw [e]
    simp [this]
  · rfl
theorem max_l2 {i j : Int} {h : Hq} : evB .max [.d (.list [.int i, .int j])] h = .ok (.d (.int (max i j))) h := by
  have := max_d (l := [i, j]) (m := max i j) (h := h) (by simp [maxI]; omega)
  exact this
def rowW (r : Nat × List Nat) : W := .d (.tuple [.int r.1, .list (r.2.map ni)])
theorem foldl_take' {α β : Type} {f : β → α → β} {l : List α} {j : Nat} {x : α} (e : l[j]? = some x) (b : β) : (l.take (j + 1)).foldl f b = f ((l.take j).foldl f b) x := by
  rw [List.take_succ, e, List.foldl_append]
  rfl
theorem value_ok (rs : List (Nat × List Nat)) {N : Nat} {M : Int} (hM : -1 ≤ M) (hN : N ≤ 24) (cap : ∀ L : List (List Int), L.Nodup → (∀ s ∈ L, Dom N M s) → L.length < 1000000) (n b p : Nat) : ∀ (d : Nat) (st : List Int) (L : List (List Int)) (h : Hq), pot st ≤ d → Dom N M st → h[p]? = some (.dct (kv rs L)) → L.Nodup → (∀ s ∈ L, Dom N M s) →
    ∃ L', L'.Nodup ∧ (∀ s ∈ L', Dom N M s) ∧ (∀ s ∈ L', s ∈ L ∨ pot s ≤ pot st) ∧ callN tab (n + d + 3) b 14 [.d (rwsD rs), .d (stD st), .l p] h = .ok (.d (.int (V rs st))) (h.set p (.dct (kv rs L'))) := by
  intro d
  induction d with
  | zero =>
    intro st L h hp hd hh nd dm
    refine ⟨L, nd, dm, fun s hs => .inl hs, ?_⟩
    have o0 : (ones st).length = 0 := by
      apply Classical.byContradiction
      intro z
      obtain ⟨k, hk⟩ := List.exists_mem_of_length_pos (Nat.pos_of_ne_zero z)
      have := pot_lt (p := fun _ => true) hk rfl
      omega
    rw [call_of (fd := f_value) _ _ rfl rfl, V_eq, if_pos (show (ones st).length ≤ 1 by omega), set_self hh]
    have oo := ones_ok (n + 1) b h (st := st) (by rw [hd.1]; exact hN)
    simp [f_value, value_b0, oo, o0]
  | succ d ih =>
    intro st L h hp hd hh nd dm
    have hl : st.length ≤ 24 := by rw [hd.1]; exact hN
    have oo := ones_ok (n + d + 2) b h (st := st) hl
    rw [call_of (fd := f_value) _ _ rfl rfl, V_eq]
    show ∃ L', _ ∧ _ ∧ _ ∧ finR false h.length (evSs b (callN tab (n + d + 3)) f_value.body [some (.d (rwsD rs)), some (.d (stD st)), some (.l p), none, none, none, none, none] h) = _
    have sp : f_value.body = .cons value_s0 (.cons value_s1 (.cons value_s2 .nil)) := rfl
    rw [sp]
    have hpl : p < h.length := (List.getElem?_eq_some_iff.mp hh).1
    by_cases h1 : (ones st).length ≤ 1
    · refine ⟨L, nd, dm, fun s hs => .inl hs, ?_⟩
      have h1' : ((ones st).length : Int) ≤ 1 := by omega
      rw [if_pos h1, set_self hh, seq_rt (s := value_s0) (w := .d (.int 0)) (h' := h) (by simp [value_b0, oo, h1'])]
      rfl
    · have h1' : ¬ ((ones st).length : Int) ≤ 1 := by omega
      rw [if_neg h1, seq_nx (s := value_s0) (env' := [some (.d (rwsD rs)), some (.d (stD st)), some (.l p), none, none, none, none, none]) (h' := h) (by simp [oo, h1'])]
      by_cases hk : st ∈ L
      · refine ⟨L, nd, dm, fun s hs => .inl hs, ?_⟩
        have c0 := cmp_nin hh (isKey_st (s := st))
        rw [kv_get, if_pos hk] at c0
        have ix := dct_at hh (isKey_st (s := st)) (by rw [kv_get, if_pos hk])
        rw [V_eq, if_neg h1] at ix
        rw [set_self hh, seq_nx (s := value_s1) (env' := [some (.d (rwsD rs)), some (.d (stD st)), some (.l p), none, none, none, none, none]) (h' := h) (by simp [c0])]
        simp [ix]
      · have c0 := cmp_nin hh (isKey_st (s := st))
        rw [kv_get, if_neg hk] at c0
        obtain ⟨env', h', e, L2, x4, x5, x6, nd2, dm2, old2, rfl, rfl⟩ := for_list (f := fun w env h => match bindT [4, 5] true w env with
            | some env => evSs b (callN tab (n + d + 3)) value_b2 env h
            | none => .bad) (emb := rowW) rs (fun j env h' => ∃ (L2 : List (List Int)) (x4 x5 x6 : Option W), L2.Nodup ∧ (∀ s ∈ L2, Dom N M s) ∧ (∀ s ∈ L2, s ∈ L ∨ pot s < pot st) ∧ env = [some (.d (rwsD rs)), some (.d (stD st)), some (.l p), some (.d (.int ((rs.take j).foldl (fun best r => vst (V rs) st best r.2) (-1)))), x4, x5, x6, none] ∧ h' = h.set p (.dct (kv rs L2)))
          (env := [some (.d (rwsD rs)), some (.d (stD st)), some (.l p), some (.d (.int (-1))), none, none, none, none]) (h := h) ⟨L, none, none, none, nd, dm, fun s hs => .inl hs, rfl, (set_self hh).symm⟩ fun j r env h' ej i => by
            obtain ⟨L2, x4, x5, x6, nd2, dm2, old2, rfl, rfl⟩ := i
            rw [foldl_take' ej]
            obtain ⟨best, hbest⟩ : ∃ best, (rs.take j).foldl (fun best r => vst (V rs) st best r.2) (-1) = best := ⟨_, rfl⟩
            rw [hbest]
            obtain ⟨H, hH⟩ : ∃ H, h.set p (.dct (kv rs L2)) = H := ⟨_, rfl⟩
            have Hp : H[p]? = some (.dct (kv rs L2)) := by rw [← hH]; simp [hpl]
            have us := is_useful_ok (n + d + 1) b H hl r.2
            rw [hH]
            cases hu : usef st r.2 with
            | false =>
              rw [hu] at us
              refine ⟨_, _, ?_, L2, some (.d (.int r.1)), some (.d (.list (r.2.map ni))), x6, nd2, dm2, old2, rfl, hH.symm⟩
              have ev : vst (V rs) st best r.2 = best := by unfold vst; rw [hu]; rfl
              rw [ev]
              simp only [rowW, bind_2, List.set_cons_succ, List.set_cons_zero, value_b2, s_cons, s_ifs, x_call, x_cons, x_var, x_nil, List.getElem?_cons_succ, List.getElem?_cons_zero, b_ok, us, s_nil]
            | true =>
              rw [hu] at us
              obtain ⟨p1, p2⟩ := usef_pot hu
              have ba := both_after_ok (n + d + 1) b H hl r.2
              obtain ⟨L3, nd3, dm3, old3, e1⟩ := ih (lo1 st r.2) L2 H (by omega) (dom_low hM hd _) Hp nd2 dm2
              have Hp3 : (H.set p (.dct (kv rs L3)))[p]? = some (.dct (kv rs L3)) := by
                have : p < H.length := by rw [← hH]; simpa using hpl
                simp [this]
              obtain ⟨L4, nd4, dm4, old4, e2⟩ := ih (lo2 st r.2) L3 (H.set p (.dct (kv rs L3))) (by omega) (dom_low hM hd _) Hp3 nd3 dm3
              have hset : (H.set p (.dct (kv rs L3))).set p (.dct (kv rs L4)) = h.set p (.dct (kv rs L4)) := by rw [← hH, List.set_set, List.set_set]
              rw [hset] at e2
              obtain ⟨v1, hv1⟩ : ∃ v, V rs (lo1 st r.2) = v := ⟨_, rfl⟩
              obtain ⟨v2, hv2⟩ : ∃ v, V rs (lo2 st r.2) = v := ⟨_, rfl⟩
              rw [hv1] at e1
              rw [hv2] at e2
              have old : ∀ s ∈ L4, s ∈ L ∨ pot s < pot st := fun s hs => by
                rcases old4 s hs with hs | hs
                · rcases old3 s hs with hs | hs
                  · exact old2 s hs
                  · exact .inr (by omega)
                · exact .inr (by omega)
              have a0 : evS b (callN tab (n + d + 3)) value_b3_s0 [some (.d (rwsD rs)), some (.d (stD st)), some (.l p), some (.d (.int best)), some (.d (.int r.1)), some (.d (.list (r.2.map ni))), x6, none] H = .ok (.nx [some (.d (rwsD rs)), some (.d (stD st)), some (.l p), some (.d (.int best)), some (.d (.int r.1)), some (.d (.list (r.2.map ni))), some (.d (.int (1 + max v1 v2))), none]) (h.set p (.dct (kv rs L4))) := by
                simp only [s_asg, x_bin, x_lit, x_blt, x_cons, x_lc, x_ite, x_call, x_var, x_nil, List.getElem?_cons_succ, List.getElem?_cons_zero, b_ok, ba, it_l, live_d, kpt_n, List.map_cons, List.map_nil, lcGo, bind_1, x_none, boolO_n, List.set_cons_succ, List.set_cons_zero, e1, e2, noEx_ok]
                have le : ∀ h, lcEnd 0 [W.d (.int v1), W.d (.int v2)] h = .ok (.d (.list [.int v1, .int v2])) h := fun h => by simp [lcEnd]
                simp only [le, b_ok, max_l2, op2_d, add_i, liftO_s, bind_1, List.set_cons_succ, List.set_cons_zero]
              have ev : vst (V rs) st best r.2 = if best < 0 ∨ 1 + max v1 v2 < best then 1 + max v1 v2 else best := by unfold vst; rw [hu, hv1, hv2]; rfl
              refine ⟨[some (.d (rwsD rs)), some (.d (stD st)), some (.l p), some (.d (.int (vst (V rs) st best r.2))), some (.d (.int r.1)), some (.d (.list (r.2.map ni))), some (.d (.int (1 + max v1 v2))), none], h.set p (.dct (kv rs L4)), ?_, L4, some (.d (.int r.1)), some (.d (.list (r.2.map ni))), some (.d (.int (1 + max v1 v2))), nd4, dm4, old, rfl, rfl⟩
              simp only [rowW, bind_2, List.set_cons_succ, List.set_cons_zero, value_b2]
              rw [seq_nx (s := value_b2_s0) (env' := [some (.d (rwsD rs)), some (.d (stD st)), some (.l p), some (.d (.int (vst (V rs) st best r.2))), some (.d (.int r.1)), some (.d (.list (r.2.map ni))), some (.d (.int (1 + max v1 v2))), none]) (h' := h.set p (.dct (kv rs L4))) (by
                simp only [s_ifs, x_call, x_cons, x_var, x_nil, List.getElem?_cons_succ, List.getElem?_cons_zero, b_ok, us]
                rw [value_b3, seq_nx a0, ev]
                by_cases c1 : best < 0
                · simp [value_b4, c1]
                · by_cases c2 : 1 + max v1 v2 < best
                  · simp [value_b4, c1, c2]
                  · simp [value_b4, c1, c2]), s_nil]
        have nst : st ∉ L2 := fun z => by
          rcases old2 st z with z | z
          · exact hk z
          · omega
        have Hp2 : (h.set p (.dct (kv rs L2)))[p]? = some (.dct (kv rs L2)) := by simp [hpl]
        have sz : (kv rs L2).length < 1000000 := by unfold kv; rw [List.length_map]; exact cap L2 nd2 dm2
        have se := dct_set (b := b) (y := .int (V rs st)) Hp2 (isKey_st (s := st)) sz
        rw [kv_put nst, List.set_set] at se
        have Hp3 : (h.set p (.dct (kv rs (L2 ++ [st]))))[p]? = some (.dct (kv rs (L2 ++ [st]))) := by simp [hpl]
        have ix := dct_at Hp3 (isKey_st (s := st)) (by rw [kv_get, if_pos (by simp)])
        rw [List.take_length] at e
        have ve : rs.foldl (fun best r => vst (V rs) st best r.2) (-1) = V rs st := by rw [V_eq, if_neg h1]
        rw [ve] at e ⊢
        refine ⟨L2 ++ [st], List.nodup_append.mpr ⟨nd2, by simp, fun a ha c hc => by
          rw [List.mem_singleton.mp hc]
          exact fun z => nst (z ▸ ha)⟩, fun s hs => ?_, fun s hs => ?_, ?_⟩
        · rcases List.mem_append.mp hs with hs | hs
          · exact dm2 s hs
          · rw [List.mem_singleton.mp hs]; exact hd
        · rcases List.mem_append.mp hs with hs | hs
          · rcases old2 s hs with hs | hs
            · exact .inl hs
            · exact .inr (by omega)
          · rw [List.mem_singleton.mp hs]; exact .inr (Nat.le_refl _)
        · have itr : itemsOf h (.d (rwsD rs)) = some (rs.map rowW) := by
            unfold rwsD
            rw [it_l, List.map_map]
            rfl
          rw [seq_nx (s := value_s1) (env' := [some (.d (rwsD rs)), some (.d (stD st)), some (.l p), some (.d (.int (V rs st))), x4, x5, x6, none]) (h' := h.set p (.dct (kv rs (L2 ++ [st])))) (by
            simp only [s_ifs, x_cmp, x_var, List.getElem?_cons_succ, List.getElem?_cons_zero, b_ok, c0, Option.isSome_none, Bool.not_false]
            rw [value_b1, seq_nx (s := value_b1_s0) (env' := [some (.d (rwsD rs)), some (.d (stD st)), some (.l p), some (.d (.int (-1))), none, none, none, none]) (h' := h) (by simp),
              seq_nx (s := value_b1_s1) (env' := [some (.d (rwsD rs)), some (.d (stD st)), some (.l p), some (.d (.int (V rs st))), x4, x5, x6, none]) (h' := h.set p (.dct (kv rs L2))) (by
                simp only [s_for, x_ite, x_var, List.getElem?_cons_succ, List.getElem?_cons_zero, b_ok, itr, live_d, kpt_n]
                exact e)]
            simp only [s_cons, s_set, x_var, List.getElem?_cons_succ, List.getElem?_cons_zero, b_ok, se, s_nil])]
          simp only [s_cons, s_ret, x_idx, x_var, List.getElem?_cons_succ, List.getElem?_cons_zero, b_ok, ix, finR_rt, fin_f]
end Ev

namespace Ev
open PySem
/-! how many states there are -/
def encS (B : Nat) : List Int → Nat
  | [] => 0
  | x :: xs => (x + 1).toNat + B * encS B xs
theorem encS_lt {M : Int} (hM : -1 ≤ M) {B : Nat} (hB : (B : Int) = M + 2) : ∀ (s : List Int), (∀ x ∈ s, -1 ≤ x ∧ x ≤ M) → encS B s < B ^ s.length
  | [], _ => by simp [encS]
  | x :: xs, h => by
    have h1 := h x List.mem_cons_self
    have h2 := encS_lt hM hB xs fun y hy => h y (List.mem_cons_of_mem _ hy)
    unfold encS
    rw [List.length_cons, Nat.pow_succ]
    have h3 : (x + 1).toNat < B := by omega
    have h4 : B * encS B xs + B ≤ B * B ^ xs.length := by
      have := Nat.mul_le_mul_left B h2
      rw [Nat.succ_eq_add_one, Nat.mul_add, Nat.mul_one] at this
      exact this
    rw [Nat.mul_comm (B ^ xs.length) B]
    omega
theorem encS_inj {M : Int} {B : Nat} (hB : (B : Int) = M + 2) : ∀ (s t : List Int), s.length = t.length → (∀ x ∈ s, -1 ≤ x ∧ x ≤ M) → (∀ x ∈ t, -1 ≤ x ∧ x ≤ M) → encS B s = encS B t → s = t
  | [], [], _, _, _, _ => rfl
  | x :: xs, y :: ys, hl, h1, h2, e => by
    have a1 := h1 x List.mem_cons_self
    have a2 := h2 y List.mem_cons_self
    unfold encS at e
    have b1 : (x + 1).toNat < B := by omega
    have b2 : (y + 1).toNat < B := by omega
    have m1 := congrArg (· % B) e
    have m2 := congrArg (· / B) e
    simp only [Nat.add_mul_mod_self_left, Nat.mod_eq_of_lt b1, Nat.mod_eq_of_lt b2] at m1
    simp only [Nat.add_mul_div_left _ _ (by omega : 0 < B), Nat.div_eq_of_lt b1, Nat.div_eq_of_lt b2, Nat.zero_add] at m2
    have := encS_inj hB xs ys (by simpa using hl) (fun z hz => h1 z (List.mem_cons_of_mem _ hz)) (fun z hz => h2 z (List.mem_cons_of_mem _ hz)) m2
    rw [this, show x = y by omega]
  | [], _ :: _, hl, _, _, _ => by simp at hl
  | _ :: _, [], hl, _, _, _ => by simp at hl
theorem nodup_le : ∀ (n : Nat) (l : List Nat), l.Nodup → (∀ x ∈ l, x < n) → l.length ≤ n
  | 0, l, _, h => by
    cases l with
    | nil => simp
    | cons x l => have := h x List.mem_cons_self; omega
  | n + 1, l, nd, h => by
    have h1 := nodup_le n (l.filter fun x => !decide (x = n)) (nd.filter _) fun x hx => by
      have := List.mem_filter.mp hx
      have h2 := h x this.1
      have h3 : ¬ x = n := by simpa using this.2
      omega
    have h2 : l.length ≤ (l.filter fun x => !decide (x = n)).length + 1 := by
      clear h1 h
      induction l with
      | nil => simp
      | cons x l ih =>
        have nd2 := List.nodup_cons.mp nd
        rw [List.filter_cons]
        by_cases e : x = n
        · subst e
          have : (l.filter fun y => !decide (y = x)) = l := List.filter_eq_self.mpr fun y hy => by
            have : ¬ y = x := fun z => nd2.1 (z ▸ hy)
            simpa using this
          simp [this]
        · have := ih nd2.2
          simp [e]
          omega
    omega
theorem cap_ok {N : Nat} {M : Int} (hM : -1 ≤ M) (hc : (M + 2).toNat ^ N ≤ 20000) (L : List (List Int)) (nd : L.Nodup) (dm : ∀ s ∈ L, Dom N M s) : L.length < 1000000 := by
  have hB : (((M + 2).toNat : Nat) : Int) = M + 2 := by omega
  have h1 : (L.map (encS (M + 2).toNat)).Nodup := by
    rw [List.nodup_iff_pairwise_ne] at nd ⊢
    rw [List.pairwise_map]
    refine nd.imp_of_mem fun {a c} ha hc2 hne e => hne (encS_inj hB a c ((dm a ha).1.trans (dm c hc2).1.symm) (dm a ha).2 (dm c hc2).2 e)
  have h2 := nodup_le ((M + 2).toNat ^ N) (L.map (encS (M + 2).toNat)) h1 fun x hx => by
    obtain ⟨s, hs, rfl⟩ := List.mem_map.mp hx
    have := encS_lt hM hB s (dm s hs).2
    rw [(dm s hs).1] at this
    exact this
  rw [List.length_map] at h2
  omega
/-! the walks -/
theorem max_st {st : List Int} {M : Int} (h0 : 0 ≤ M) (h : ∀ x ∈ st, x ≤ M) (hh : Hq) : ∃ m : Int, 0 ≤ m ∧ m ≤ M ∧ evB .max [.d (.tuple ((st ++ [0]).map .int))] hh = .ok (.d (.int m)) hh := by
  have g : ∀ l : List Int, (∀ x ∈ l, x ≤ M) → 0 ∈ l → ∃ m, maxI l = some m ∧ 0 ≤ m ∧ m ≤ M := by
    have g2 : ∀ l : List Int, l ≠ [] → (∀ x ∈ l, x ≤ M) → ∃ m, maxI l = some m ∧ m ≤ M ∧ ∀ x ∈ l, x ≤ m := by
      intro l
      induction l with
      | nil => intro z; exact absurd rfl z
      | cons x l ih =>
        intro _ hl
        have hx := hl x List.mem_cons_self
        cases l with
        | nil => exact ⟨x, rfl, hx, fun y hy => by rw [List.mem_singleton.mp hy]; exact Int.le_refl _⟩
        | cons y l =>
          obtain ⟨m, e, m1, m2⟩ := ih (by simp) fun z hz => hl z (List.mem_cons_of_mem _ hz)
          refine ⟨if m < x then x else m, by
            show (match maxI (y :: l) with | none => some x | some m => some (if m < x then x else m)) = _
            rw [e], by split <;> omega, fun z hz => ?_⟩
          rcases List.mem_cons.mp hz with rfl | hz
          · split <;> omega
          · have := m2 z hz
            split <;> omega
    intro l hl h0
    obtain ⟨m, e, m1, m2⟩ := g2 l (by intro z; rw [z] at h0; cases h0) hl
    exact ⟨m, e, m2 0 h0, m1⟩
  obtain ⟨m, e, m1, m2⟩ := g (st ++ [0]) (fun x hx => by
    rcases List.mem_append.mp hx with hx | hx
    · exact h x hx
    · rw [List.mem_singleton.mp hx]; exact h0) (by simp)
  exact ⟨m, m1, m2, max_t e⟩
theorem check_size_ok (n b : Nat) (h : Hq) {st : List Int} {M : Int} (h0 : 0 ≤ M) (hM : M ≤ 100) (hs : ∀ x ∈ st, x ≤ M) (hl : st.length ≤ 24) (hc : (M + 2).toNat ^ st.length ≤ 20000) : callN tab (n + 1) b 9 [.d (stD st)] h = .ok (.d .none) h := by
  rw [call_of (fd := f_check_size) _ _ rfl rfl]
  obtain ⟨m, m0, m1, em⟩ := max_st h0 hs h
  obtain ⟨B, hB⟩ : ∃ B : Nat, (M + 2).toNat = B := ⟨_, rfl⟩
  rw [hB] at hc
  simp only [List.map_append, List.map_cons, List.map_nil] at em
  have ad : evBin .Add (stD st) (.tuple [.int 0]) = some (.tuple (st.map .int ++ [.int 0])) := by
    unfold stD
    rw [add_t (by simp; omega)]
  obtain ⟨env', h', e, v, x, rfl, rfl, v0, vB⟩ := for_up (f := fun w env h => evSs b (callN tab n) check_size_b0 (env.set 2 (some w)) h) st.length (fun j env h' => ∃ (v : Int) (x : Option W), env = [some (.d (stD st)), some (.d (.int v)), x] ∧ h = h' ∧ 0 ≤ v ∧ v ≤ ((B ^ j : Nat) : Int))
    (env := [some (.d (stD st)), some (.d (.int 1)), none]) (h := h) ⟨1, none, rfl, rfl, by decide, by simp⟩ fun j env h' hj i => by
      obtain ⟨v, x, rfl, rfl, v0, vB⟩ := i
      have p2 : B ^ (j + 1) ≤ B ^ st.length := Nat.pow_le_pow_right (by omega) (by omega)
      have p1 : B ^ j ≤ B ^ (j + 1) := Nat.pow_le_pow_right (by omega) (by omega)
      have mu : evBin .Mult (.int v) (.int (m + 2)) = some (.int (v * (m + 2))) := mul_r (by omega) (by omega)
      refine ⟨_, _, ?_, v * (m + 2), some (.d (.int j)), rfl, rfl, Int.mul_nonneg v0 (by omega), ?_⟩
      · simp [check_size_b0, ad, em, mu]
      · have h1 : v * (m + 2) ≤ ((B ^ j : Nat) : Int) * (B : Int) := Int.mul_le_mul vB (by omega) (by omega) (by omega)
        rw [Nat.pow_succ]
        push_cast at h1 ⊢
        exact h1
  have rg := rg_nat (n := st.length) (by omega)
  have c1 : ¬ (20000 : Int) < v := by omega
  simp [f_check_size, st_len, s_for, rg, e, c1]
def rws (rows : List (Str × List Int)) (sk : List Nat) : List (Nat × List Nat) := (tsts (Ab rows) (fnd rows sk) (tst rows.length sk)).map fun m => (m, brk (Ab rows) (fnd rows sk) m)
theorem rows_of_ok (n b : Nat) (h : Hq) {rows : List (Str × List Int)} (hR : Rows rows) (hr : rows.length ≤ 24) (sk : List Nat) : callN tab (n + 4) b 10 [.d (histD rows), .d (skD sk)] h = .ok (.d (rwsD (rws rows sk))) h := by
  rw [call_of (fd := f_rows_of) _ _ rfl rfl]
  have ce := classes_ok (n + 1) b h hR hr sk
  have te := tests_ok n b h hR hr sk
  have cl := grp_cl hr (keyOf (Ab rows) (tst rows.length sk))
  rw [show grp (keyOf (Ab rows) (tst rows.length sk)) rows.length = fnd rows sk from rfl] at ce te cl
  have ski : ∀ (l : List Nat) (h : Hq), itemsOf h (.d (skD l)) = some (l.map (W.d ∘ ni)) := fun l h => by unfold skD; rw [it_t, List.map_map]
  simp [f_rows_of, ce, te, ski]
  rw [lc_map (emb := W.d ∘ ni) (g := fun m => W.d (.tuple [.int m, .list ((brk (Ab rows) (fnd rows sk) m).map ni)]))]
  · simp [rwsD, rws, Function.comp_def]
  · intro m hm
    have ml : m < rows.length := by
      have g : ∀ (T M : List Nat), ∀ x ∈ T.foldl (tsStep (Ab rows) (fnd rows sk)) M, x ∈ M ∨ x ∈ T := by
        intro T
        induction T with
        | nil => intro M x h; exact .inl h
        | cons m T ih =>
          intro M x h
          rcases ih _ x h with h | h
          · unfold tsStep at h
            split at h
            · rcases List.mem_append.mp h with h | h
              · exact .inl h
              · exact .inr (by rw [List.mem_singleton.mp h]; exact List.mem_cons_self)
            · exact .inl h
          · exact .inr (List.mem_cons_of_mem _ h)
      rcases g _ _ m hm with h | h
      · cases h
      · exact tst_lt h
    have be := broken_ok (n + 1) b h hR hr cl.len cl.ne ml
    have be' : callN tab (n + 3) b 3 [.d (histD rows), .d (clsD (fnd rows sk)), .d (.int m)] h = .ok (.d (.list ((brk (Ab rows) (fnd rows sk) m).map ni))) h := be
    have ssk : PyData.tuple (sk.map ni) = skD sk := rfl
    simp [be']
theorem pot_rep (N : Nat) (k : Int) (hk : 0 ≤ k) : pot (List.replicate N k) = N * (k + 1).toNat := by
  unfold pot
  rw [List.length_replicate]
  have : (List.range N).map (fun j => ((List.replicate N k)[j]?.getD 0 + 1).toNat) = List.replicate N (k + 1).toNat := by
    apply List.ext_getElem?
    intro j
    by_cases h : j < N
    · simp [h]
    · rw [List.getElem?_eq_none (by simp; omega), List.getElem?_eq_none (by simp; omega)]
  rw [this]
  simp
end Ev

namespace Ev
open PySem
/-! the rows tell the classes apart -/
theorem tsts_has {A : Nat → Nat → Bool} {found : List (List Nat)} : ∀ (T M : List Nat) {m : Nat}, m ∈ T → true ∈ brow A found m → false ∈ brow A found m → ∃ m' ∈ T.foldl (tsStep A found) M, brow A found m' = brow A found m
  | [], _, _, h, _, _ => by cases h
  | t :: T, M, m, h, h1, h2 => by
    have keep : ∀ (T M : List Nat), ∀ x ∈ M, x ∈ T.foldl (tsStep A found) M := by
      intro T
      induction T with
      | nil => intro M x hx; exact hx
      | cons t T ih =>
        intro M x hx
        refine ih _ x ?_
        unfold tsStep
        split
        · exact List.mem_append.mpr (.inl hx)
        · exact hx
    rcases List.mem_cons.mp h with rfl | h
    · by_cases hm : brow A found m ∈ M.map (brow A found)
      · obtain ⟨q, hq, e⟩ := List.mem_map.mp hm
        refine ⟨q, keep T _ q ?_, e⟩
        unfold tsStep
        split
        · exact List.mem_append.mpr (.inl hq)
        · exact hq
      · refine ⟨m, keep T _ m ?_, rfl⟩
        unfold tsStep good
        simp [h1, h2, hm]
    · exact tsts_has T _ h h1 h2
theorem grp_apart {key : Nat → List Bool} {n i j : Nat} (hi : i < (grp key n).length) (hj : j < (grp key n).length) (hij : i ≠ j) : key (((grp key n)[i]?.getD []).headD 0) ≠ key (((grp key n)[j]?.getD []).headD 0) := by
  have ge := grp_eq key n
  obtain ⟨F, hF⟩ : ∃ F, (List.range n).filter (fir key) = F := ⟨_, rfl⟩
  rw [hF] at ge
  have Fm : ∀ x ∈ F, x < n ∧ fir key x = true := fun x hx => by
    rw [← hF] at hx
    have := List.mem_filter.mp hx
    exact ⟨List.mem_range.mp this.1, this.2⟩
  have Fn : F.Pairwise (· < ·) := by rw [← hF]; exact List.pairwise_lt_range.filter _
  have gl : (grp key n).length = F.length := by rw [ge, List.length_map]
  have hd : ∀ k (hk : k < F.length), ((grp key n)[k]?.getD []).headD 0 = F[k] := fun k hk => by
    rw [ge, List.getElem?_map, List.getElem?_eq_getElem hk]
    simp only [Option.map_some, Option.getD_some]
    obtain ⟨h1, h2⟩ := Fm _ (List.getElem_mem hk)
    exact clo_head h1 h2
  have hi2 : i < F.length := by omega
  have hj2 : j < F.length := by omega
  rw [hd i hi2, hd j hj2]
  have pw := List.pairwise_iff_getElem.mp Fn
  rcases Nat.lt_or_gt_of_ne hij with z | z
  · exact fir_iff.mp (Fm _ (List.getElem_mem hj2)).2 _ (pw i j hi2 hj2 z)
  · exact fun e => fir_iff.mp (Fm _ (List.getElem_mem hi2)).2 _ (pw j i hj2 hi2 z) e.symm
theorem key_differ {A : Nat → Nat → Bool} {T : List Nat} {x y : Nat} (h : keyOf A T x ≠ keyOf A T y) : ∃ m ∈ T, A m x ≠ A m y := by
  apply Classical.byContradiction
  intro z
  refine h (List.map_congr_left fun m hm => ?_)
  apply Classical.byContradiction
  intro q
  exact z ⟨m, hm, q⟩
theorem rows_sep {rows : List (Str × List Int)} {sk : List Nat} {M : Int} : ∀ st, Dom (fnd rows sk).length M st → 2 ≤ (ones st).length → ∃ r ∈ rws rows sk, usef st r.2 = true := by
  intro st hd h2
  obtain ⟨found, hf⟩ : ∃ f, fnd rows sk = f := ⟨_, rfl⟩
  obtain ⟨T, hT⟩ : ∃ T, tst rows.length sk = T := ⟨_, rfl⟩
  -- two that are inside
  have nd : (ones st).Pairwise (· < ·) := List.pairwise_lt_range.filter _
  have lt : ∀ k ∈ ones st, k < found.length := fun k hk => by
    have := List.mem_range.mp (List.mem_filter.mp hk).1
    rw [hd.1, hf] at this
    exact this
  have h0 : 0 < (ones st).length := by omega
  have h1 : 1 < (ones st).length := by omega
  obtain ⟨i, hi⟩ : ∃ i, (ones st)[0] = i := ⟨_, rfl⟩
  obtain ⟨j, hj⟩ : ∃ j, (ones st)[1] = j := ⟨_, rfl⟩
  have im : i ∈ ones st := hi ▸ List.getElem_mem h0
  have jm : j ∈ ones st := hj ▸ List.getElem_mem h1
  have ij : i ≠ j := by
    have := List.pairwise_iff_getElem.mp nd 0 1 h0 h1 (by omega)
    omega
  have ap := grp_apart (key := keyOf (Ab rows) (tst rows.length sk)) (n := rows.length) (i := i) (j := j) (by have := lt i im; rw [← hf] at this; exact this) (by have := lt j jm; rw [← hf] at this; exact this) ij
  rw [show grp (keyOf (Ab rows) (tst rows.length sk)) rows.length = found from hf] at ap
  obtain ⟨m, hm, hne⟩ := key_differ ap
  rw [hT] at hm
  have at_ : ∀ (m k : Nat) (hk : k < found.length), (brow (Ab rows) found m)[k]? = some (Ab rows m ((found[k]?.getD []).headD 0)) := fun m k hk => by
    unfold brow
    rw [List.getElem?_map, List.getElem?_eq_getElem hk]
    rfl
  have li := lt i im
  have lj := lt j jm
  have mi := List.mem_of_getElem? (at_ m i li)
  have mj := List.mem_of_getElem? (at_ m j lj)
  obtain ⟨m', hm', hb⟩ := tsts_has (A := Ab rows) (found := found) T [] hm (by
    cases e : Ab rows m ((found[i]?.getD []).headD 0) with
    | true => rw [e] at mi; exact mi
    | false =>
      rw [e] at hne
      have : Ab rows m ((found[j]?.getD []).headD 0) = true := by
        cases e2 : Ab rows m ((found[j]?.getD []).headD 0) with
        | true => rfl
        | false => exact absurd e2.symm hne
      rw [this] at mj; exact mj) (by
    cases e : Ab rows m ((found[i]?.getD []).headD 0) with
    | false => rw [e] at mi; exact mi
    | true =>
      rw [e] at hne
      have : Ab rows m ((found[j]?.getD []).headD 0) = false := by
        cases e2 : Ab rows m ((found[j]?.getD []).headD 0) with
        | false => rfl
        | true => exact absurd e2.symm hne
      rw [this] at mj; exact mj)
  refine ⟨(m', brk (Ab rows) found m'), ?_, ?_⟩
  · unfold rws
    rw [hf, hT]
    exact List.mem_map.mpr ⟨m', hm', rfl⟩
  · have same : ∀ k (hk : k < found.length), Ab rows m' ((found[k]?.getD []).headD 0) = Ab rows m ((found[k]?.getD []).headD 0) := fun k hk => by
      have e1 := at_ m' k hk
      rw [hb, at_ m k hk] at e1
      exact (Option.some.inj e1).symm
    have memb : ∀ k, k < found.length → (k ∈ brk (Ab rows) found m' ↔ Ab rows m ((found[k]?.getD []).headD 0) = true) := fun k hk => by
      unfold brk
      rw [List.mem_filter, List.mem_range, ← same k hk]
      exact ⟨fun z => z.2, fun z => ⟨hk, z⟩⟩
    have main : ∀ x y, x ∈ ones st → y ∈ ones st → Ab rows m ((found[x]?.getD []).headD 0) = true → Ab rows m ((found[y]?.getD []).headD 0) = false → usef st (brk (Ab rows) found m') = true := fun x y hx hy ex ey => by
      unfold usef
      rw [Bool.and_eq_true, decide_eq_true_eq, decide_eq_true_eq]
      have xm := (memb x (lt x hx)).mpr ex
      have ym : ¬ y ∈ brk (Ab rows) found m' := fun z => by
        have := (memb y (lt y hy)).mp z
        rw [ey] at this; cases this
      constructor
      · exact List.length_pos_of_mem (List.mem_filter.mpr ⟨hx, by simpa using xm⟩)
      · have le := List.length_filter_le (fun k => decide (k ∈ brk (Ab rows) found m')) (ones st)
        have ne : ((ones st).filter fun k => decide (k ∈ brk (Ab rows) found m')).length ≠ (ones st).length := fun e => by
          have := List.length_filter_eq_length_iff.mp e y hy
          exact ym (by simpa using this)
        omega
    cases e : Ab rows m ((found[i]?.getD []).headD 0) with
    | true =>
      refine main i j im jm e ?_
      cases e2 : Ab rows m ((found[j]?.getD []).headD 0) with
      | false => rfl
      | true => exact absurd (e.trans e2.symm) hne
    | false =>
      refine main j i jm im ?_ e
      cases e2 : Ab rows m ((found[j]?.getD []).headD 0) with
      | true => rfl
      | false => exact absurd (e.trans e2.symm) hne
end Ev

namespace Ev
open PySem
theorem fewest_from_ok (n b : Nat) (h : Hq) {rows : List (Str × List Int)} (hR : Rows rows) (hr : rows.length ≤ 24) (sk : List Nat) {st : List Int} {N : Nat} {M : Int} (h0 : 0 ≤ M) (hM : M ≤ 100) (hN : N ≤ 24) (hd : Dom N M st) (hc : (M + 2).toNat ^ N ≤ 20000) :
    callN tab (n + pot st + 6) b 15 [.d (histD rows), .d (skD sk), .d (stD st)] h = .ok (.d (.int (V (rws rows sk) st))) h := by
  rw [call_of (fd := f_fewest_from) _ _ rfl rfl]
  have cs := check_size_ok (n + pot st + 4) h.length h h0 hM (fun x hx => (hd.2 x hx).2) (by rw [hd.1]; exact hN) (by rw [hd.1]; exact hc)
  have ro := rows_of_ok (n + pot st + 1) h.length h hR hr sk
  have at0 : (h ++ [Ob.dct (kv (rws rows sk) [])])[h.length]? = some (.dct (kv (rws rows sk) [])) := last_at
  obtain ⟨L, _, _, _, ve⟩ := value_ok (rws rows sk) (M := M) (by omega) hN (cap_ok (by omega) hc) (n + 2) h.length h.length (pot st) st [] (h ++ [Ob.dct (kv (rws rows sk) [])]) (Nat.le_refl _) hd at0 .nil (by simp)
  have ve' : callN tab (n + pot st + 5) h.length 14 [.d (rwsD (rws rows sk)), .d (stD st), .l h.length] (h ++ [Ob.dct []]) = .ok (.d (.int (V (rws rows sk) st))) ((h ++ [Ob.dct (kv (rws rows sk) [])]).set h.length (.dct (kv (rws rows sk) L))) := by
    rw [show n + pot st + 5 = n + 2 + pot st + 3 by omega]
    exact ve
  rw [last_set] at ve'
  simp [f_fewest_from, cs, ro, ve']
end Ev

namespace Ev
open PySem
/-! the value as a least and a greatest -/
def bst {α : Type} (f : α → Option Int) (b : Int) (x : α) : Int := match f x with
  | none => b
  | some v => if b < 0 ∨ v < b then v else b
theorem fold_best {α : Type} (f : α → Option Int) : ∀ (l : List α) (b : Int), (∀ x ∈ l, ∀ v, f x = some v → 0 ≤ v) →
    (l.foldl (bst f) b = b ∨ ∃ x ∈ l, f x = some (l.foldl (bst f) b)) ∧ (0 ≤ b → l.foldl (bst f) b ≤ b ∧ 0 ≤ l.foldl (bst f) b) ∧ (∀ x ∈ l, ∀ v, f x = some v → 0 ≤ l.foldl (bst f) b ∧ l.foldl (bst f) b ≤ v)
  | [], b, _ => ⟨.inl rfl, fun h => ⟨Int.le_refl _, h⟩, fun x hx => by cases hx⟩
  | y :: l, b, hn => by
    rw [List.foldl_cons]
    obtain ⟨i1, i2, i3⟩ := fold_best f l (bst f b y) fun x hx => hn x (List.mem_cons_of_mem _ hx)
    cases e : f y with
    | none =>
      have eb : bst f b y = b := by simp [bst, e]
      rw [eb] at i1 i2 i3 ⊢
      refine ⟨i1.imp id fun ⟨x, hx, q⟩ => ⟨x, List.mem_cons_of_mem _ hx, q⟩, i2, fun x hx v hv => ?_⟩
      rcases List.mem_cons.mp hx with rfl | hx
      · rw [e] at hv; cases hv
      · exact i3 x hx v hv
    | some u =>
      have u0 := hn y List.mem_cons_self u e
      by_cases c : b < 0 ∨ u < b
      · have eb : bst f b y = u := by simp [bst, e, c]
        rw [eb] at i1 i2 i3 ⊢
        obtain ⟨j1, j2⟩ := i2 u0
        refine ⟨.inr ?_, fun h => ⟨by omega, j2⟩, fun x hx v hv => ?_⟩
        · rcases i1 with q | ⟨x, hx, q⟩
          · exact ⟨y, List.mem_cons_self, by rw [q]; exact e⟩
          · exact ⟨x, List.mem_cons_of_mem _ hx, q⟩
        · rcases List.mem_cons.mp hx with rfl | hx
          · rw [e] at hv; cases hv; exact ⟨j2, j1⟩
          · exact i3 x hx v hv
      · have eb : bst f b y = b := by simp only [bst, e, if_neg c]
        rw [eb] at i1 i2 i3 ⊢
        refine ⟨i1.imp id fun ⟨x, hx, q⟩ => ⟨x, List.mem_cons_of_mem _ hx, q⟩, i2, fun x hx v hv => ?_⟩
        rcases List.mem_cons.mp hx with rfl | hx
        · rw [e] at hv; cases hv
          obtain ⟨j1, j2⟩ := i2 (by omega)
          exact ⟨j2, by omega⟩
        · exact i3 x hx v hv
def vOf (rs : List (Nat × List Nat)) (st : List Int) (row : List Nat) : Int := 1 + max (V rs (lo1 st row)) (V rs (lo2 st row))
theorem V_fold (rs : List (Nat × List Nat)) (st : List Int) (h : 2 ≤ (ones st).length) : V rs st = rs.foldl (bst fun r => if usef st r.2 then some (vOf rs st r.2) else none) (-1) := by
  rw [V_eq, if_neg (by omega)]
  refine fold_congr rs _ fun r _ b => ?_
  unfold vst bst vOf
  cases hu : usef st r.2 <;> simp [hu]
theorem V_spec {rs : List (Nat × List Nat)} {P : List Int → Prop} (pl : ∀ s p, P s → P (low s p)) (sep : ∀ s, P s → 2 ≤ (ones s).length → ∃ r ∈ rs, usef s r.2 = true) : ∀ (d : Nat) (st : List Int), pot st ≤ d → P st →
    0 ≤ V rs st ∧ (2 ≤ (ones st).length → 1 ≤ V rs st ∧ (∃ r ∈ rs, usef st r.2 = true ∧ V rs st = vOf rs st r.2) ∧ ∀ r ∈ rs, usef st r.2 = true → V rs st ≤ vOf rs st r.2) := by
  intro d
  induction d with
  | zero =>
    intro st hp _
    have o0 : (ones st).length = 0 := by
      apply Classical.byContradiction
      intro z
      obtain ⟨k, hk⟩ := List.exists_mem_of_length_pos (Nat.pos_of_ne_zero z)
      have := pot_lt (p := fun _ => true) hk rfl
      omega
    exact ⟨by rw [V_eq, if_pos (by omega)]; exact Int.le_refl _, fun h => by omega⟩
  | succ d ih =>
    intro st hp hP
    by_cases h2 : 2 ≤ (ones st).length
    · have nn : ∀ r ∈ rs, ∀ v, (if usef st r.2 then some (vOf rs st r.2) else none) = some v → 1 ≤ v := fun r _ v e => by
        cases hu : usef st r.2 with
        | false => rw [hu] at e; cases e
        | true =>
          rw [hu] at e
          cases e
          obtain ⟨p1, p2⟩ := usef_pot hu
          have a1 := (ih (lo1 st r.2) (by omega) (pl _ _ hP)).1
          unfold vOf
          omega
      obtain ⟨f1, f2, f3⟩ := fold_best (fun r : Nat × List Nat => if usef st r.2 then some (vOf rs st r.2) else none) rs (-1) fun r hr v e => by have := nn r hr v e; omega
      rw [← V_fold rs st h2] at f1 f2 f3
      obtain ⟨r0, hr0, hu0⟩ := sep st hP h2
      have g0 := f3 r0 hr0 (vOf rs st r0.2) (by rw [hu0]; rfl)
      have at_ : ∃ r ∈ rs, (if usef st r.2 then some (vOf rs st r.2) else none) = some (V rs st) := by
        rcases f1 with q | q
        · omega
        · exact q
      obtain ⟨r, hr, e⟩ := at_
      have v1 := nn r hr _ e
      refine ⟨by omega, fun _ => ⟨v1, ?_, fun r hr hu => (f3 r hr _ (by rw [hu]; rfl)).2⟩⟩
      cases hu : usef st r.2 with
      | false => rw [hu] at e; cases e
      | true =>
        rw [hu] at e
        exact ⟨r, hr, hu, (Option.some.inj e).symm⟩
    · exact ⟨by rw [V_eq, if_pos (by omega)]; exact Int.le_refl _, fun h => absurd h h2⟩
theorem V_small {rs : List (Nat × List Nat)} {st : List Int} (h : (ones st).length ≤ 1) : V rs st = 0 := by rw [V_eq, if_pos h]
section
variable {rows : List (Str × List Int)} {sk : List Nat} {M : Int}
theorem V_rows (hM : -1 ≤ M) {st : List Int} (hd : Dom (fnd rows sk).length M st) : 0 ≤ V (rws rows sk) st ∧ (2 ≤ (ones st).length → 1 ≤ V (rws rows sk) st ∧ (∃ r ∈ rws rows sk, usef st r.2 = true ∧ V (rws rows sk) st = vOf (rws rows sk) st r.2) ∧ ∀ r ∈ rws rows sk, usef st r.2 = true → V (rws rows sk) st ≤ vOf (rws rows sk) st r.2) :=
  V_spec (P := Dom (fnd rows sk).length M) (fun _ _ h => dom_low hM h _) rows_sep _ st (Nat.le_refl _) hd
theorem low_same {st : List Int} {p : Nat → Bool} (h : ∀ x ∈ st, -1 ≤ x) (hp : ∀ k ∈ ones st, p k = false) : low st p = st := by
  apply List.ext_getElem?
  intro k
  unfold low
  by_cases hk : k < st.length
  · rw [List.getElem?_map, List.getElem?_range hk, Option.map_some, List.getElem?_eq_getElem hk, Option.getD_some]
    have h1 := h _ (List.getElem_mem hk)
    by_cases ho : 0 ≤ st[k]
    · have := hp k (List.mem_filter.mpr ⟨List.mem_range.mpr hk, by simp [hk, ho]⟩)
      rw [this]
      simp only [Bool.false_eq_true, if_false]
      refine congrArg some ?_
      omega
    · refine congrArg some ?_
      split <;> omega
  · rw [List.getElem?_eq_none (by simpa using hk), List.getElem?_eq_none (by simpa using hk)]
/-- a test that is of no use leaves the state with one of its answers -/
theorem useless {st : List Int} (h : ∀ x ∈ st, -1 ≤ x) {row : List Nat} (hu : usef st row = false) : lo1 st row = st ∨ lo2 st row = st := by
  unfold usef at hu
  rw [Bool.and_eq_false_iff, decide_eq_false_iff_not, decide_eq_false_iff_not] at hu
  rcases hu with hu | hu
  · right
    refine low_same h fun k hk => ?_
    cases e : decide (k ∈ row) with
    | false => rfl
    | true => exact absurd (List.length_pos_of_mem (List.mem_filter.mpr ⟨hk, e⟩)) hu
  · left
    refine low_same h fun k hk => ?_
    have le := List.length_filter_le (fun k => decide (k ∈ row)) (ones st)
    have := List.length_filter_eq_length_iff.mp (show ((ones st).filter fun k => decide (k ∈ row)).length = (ones st).length by omega) k hk
    rw [this]; rfl
theorem V_any (hM : -1 ≤ M) {st : List Int} (hd : Dom (fnd rows sk).length M st) {m : Nat} (hm : m ∈ tst rows.length sk) : V (rws rows sk) st ≤ vOf (rws rows sk) st (brk (Ab rows) (fnd rows sk) m) := by
  obtain ⟨v0, v2⟩ := V_rows hM hd
  have n1 := (V_rows hM (dom_low hM hd fun k => !decide (k ∈ brk (Ab rows) (fnd rows sk) m))).1
  have n2 := (V_rows hM (dom_low hM hd fun k => decide (k ∈ brk (Ab rows) (fnd rows sk) m))).1
  cases hu : usef st (brk (Ab rows) (fnd rows sk) m) with
  | false =>
    unfold vOf
    rcases useless (fun x hx => (hd.2 x hx).1) hu with e | e
    · rw [e]; omega
    · rw [e]; omega
  | true =>
    have hu' := hu
    unfold usef at hu'
    rw [Bool.and_eq_true, decide_eq_true_eq, decide_eq_true_eq] at hu'
    obtain ⟨u1, u2⟩ := hu'
    have h2 : 2 ≤ (ones st).length := by omega
    obtain ⟨k, hk⟩ := List.exists_mem_of_length_pos u1
    have hk := List.mem_filter.mp hk
    have t1 : true ∈ brow (Ab rows) (fnd rows sk) m := brk_pos.mp (List.length_pos_of_mem (of_decide_eq_true hk.2))
    have t2 : false ∈ brow (Ab rows) (fnd rows sk) m := by
      refine brk_lt.mp ?_
      apply Classical.byContradiction
      intro z
      have le := brk_le (A := Ab rows) (found := fnd rows sk) (m := m)
      have all : ∀ j, j < (fnd rows sk).length → j ∈ brk (Ab rows) (fnd rows sk) m := fun j hj => by
        unfold brk at z le ⊢
        have := List.length_filter_eq_length_iff.mp (show ((List.range (fnd rows sk).length).filter fun k => Ab rows m (((fnd rows sk)[k]?.getD []).headD 0)).length = (List.range (fnd rows sk).length).length by rw [List.length_range]; omega) j (List.mem_range.mpr hj)
        exact List.mem_filter.mpr ⟨List.mem_range.mpr hj, this⟩
      have : (ones st).filter (fun k => decide (k ∈ brk (Ab rows) (fnd rows sk) m)) = ones st := List.filter_eq_self.mpr fun j hj => by
        have := List.mem_range.mp (List.mem_filter.mp hj).1
        rw [hd.1] at this
        exact decide_eq_true (all j this)
      rw [this] at u2
      omega
    obtain ⟨m', hm', hb⟩ := tsts_has (A := Ab rows) (found := fnd rows sk) (tst rows.length sk) [] hm t1 t2
    have e : brk (Ab rows) (fnd rows sk) m' = brk (Ab rows) (fnd rows sk) m := brk_brow.mpr hb
    have r : (m', brk (Ab rows) (fnd rows sk) m) ∈ rws rows sk := by
      rw [← e]
      unfold rws tsts
      refine List.mem_map.mpr ⟨m', ?_, rfl⟩
      exact hm'
    obtain ⟨_, _, v3⟩ := v2 h2
    exact v3 (m', brk (Ab rows) (fnd rows sk) m) r hu
end
end Ev

namespace Ev
open PySem
theorem V_le (rs : List (Nat × List Nat)) : ∀ (d : Nat) (st : List Int), pot st ≤ d → V rs st ≤ pot st
  | d, st, h => by
    rw [V_eq]
    split
    · omega
    · have g : ∀ (l : List (Nat × List Nat)) (b : Int), b ≤ pot st → l.foldl (fun best r => vst (V rs) st best r.2) b ≤ pot st := by
        intro l
        induction l with
        | nil => intro b hb; exact hb
        | cons r l ih =>
          intro b hb
          refine ih _ ?_
          show vst (V rs) st b r.2 ≤ _
          unfold vst
          split
          · rename_i hu
            obtain ⟨p1, p2⟩ := usef_pot hu
            cases d with
            | zero => omega
            | succ d =>
              have v1 := V_le rs d (lo1 st r.2) (by omega)
              have v2 := V_le rs d (lo2 st r.2) (by omega)
              split <;> omega
          · exact hb
      exact g rs (-1) (by omega)
theorem rws_lt {rows : List (Str × List Int)} {sk : List Nat} : ∀ r ∈ rws rows sk, r.1 ∈ tst rows.length sk ∧ r.2 = brk (Ab rows) (fnd rows sk) r.1 := by
  intro r hr
  unfold rws at hr
  obtain ⟨m, hm, rfl⟩ := List.mem_map.mp hr
  have g : ∀ (T M : List Nat), ∀ x ∈ T.foldl (tsStep (Ab rows) (fnd rows sk)) M, x ∈ M ∨ x ∈ T := by
    intro T
    induction T with
    | nil => intro M x h; exact .inl h
    | cons m T ih =>
      intro M x h
      rcases ih _ x h with h | h
      · unfold tsStep at h
        split at h
        · rcases List.mem_append.mp h with h | h
          · exact .inl h
          · exact .inr (by rw [List.mem_singleton.mp h]; exact List.mem_cons_self)
        · exact .inl h
      · exact .inr (List.mem_cons_of_mem _ h)
  rcases g _ _ m hm with h | h
  · cases h
  · exact ⟨h, rfl⟩
end Ev

namespace Ev
open PySem
theorem lc_box {f : W → Hq → R (Option W)} {t : Hq} : ∀ (l : List Nat) (bx : Ob), IsBox bx → (∀ x ∈ l, ∀ bx, IsBox bx → ∃ (keep : Bool) (bx' : Ob), IsBox bx' ∧ f (.d (ni x)) (bx :: t) = .ok (if keep then some (.d (ni x)) else none) (bx' :: t)) →
    ∃ (sk : List Nat) (bx' : Ob), sk.Sublist l ∧ IsBox bx' ∧ lcGo f (l.map (W.d ∘ ni)) (bx :: t) = .ok (sk.map (W.d ∘ ni)) (bx' :: t)
  | [], bx, hb, _ => ⟨[], bx, .slnil, hb, rfl⟩
  | x :: l, bx, hb, e => by
    obtain ⟨keep, bx1, hb1, e1⟩ := e x List.mem_cons_self bx hb
    obtain ⟨sk, bx2, s, hb2, e2⟩ := lc_box l bx1 hb1 fun y hy => e y (List.mem_cons_of_mem _ hy)
    cases keep with
    | true => exact ⟨x :: sk, bx2, s.cons₂ x, hb2, by simp only [List.map_cons, Function.comp, lcGo, e1, b_ok, if_true] at e2 ⊢; rw [e2]; rfl⟩
    | false => exact ⟨sk, bx2, s.cons x, hb2, by simp only [List.map_cons, Function.comp, lcGo, e1, b_ok, Bool.false_eq_true, if_false] at e2 ⊢; rw [e2]; rfl⟩
theorem lc_boxR {f : W → Hq → R (Option W)} {t : Hq} {r : R (List W)} {l : List Nat} {bx : Ob} (hr : lcGo f (l.map (W.d ∘ ni)) (bx :: t) = r) (hb : IsBox bx) (e : ∀ x ∈ l, ∀ bx, IsBox bx → ∃ (keep : Bool) (bx' : Ob), IsBox bx' ∧ f (.d (ni x)) (bx :: t) = .ok (if keep then some (.d (ni x)) else none) (bx' :: t)) :
    ∃ (sk : List Nat) (bx' : Ob), sk.Sublist l ∧ IsBox bx' ∧ r = .ok (sk.map (W.d ∘ ni)) (bx' :: t) := by
  obtain ⟨sk, bx', s, hb', e⟩ := lc_box l bx hb e
  exact ⟨sk, bx', s, hb', hr ▸ e⟩
theorem lc_boxN {f : W → Hq → R (Option W)} {t : Hq} {P : Int → Prop} : ∀ (l : List Nat) (bx : Ob), IsBox bx → (∀ x ∈ l, ∀ bx, IsBox bx → ∃ (v : Int) (bx' : Ob), IsBox bx' ∧ P v ∧ f (.d (ni x)) (bx :: t) = .ok (some (.d (.int v))) (bx' :: t)) →
    ∃ (vs : List Int) (bx' : Ob), vs.length = l.length ∧ (∀ v ∈ vs, P v) ∧ IsBox bx' ∧ lcGo f (l.map (W.d ∘ ni)) (bx :: t) = .ok (vs.map fun v => W.d (.int v)) (bx' :: t)
  | [], bx, hb, _ => ⟨[], bx, rfl, by simp, hb, rfl⟩
  | x :: l, bx, hb, e => by
    obtain ⟨v, bx1, hb1, hv, e1⟩ := e x List.mem_cons_self bx hb
    obtain ⟨vs, bx2, s, hvs, hb2, e2⟩ := lc_boxN l bx1 hb1 fun y hy => e y (List.mem_cons_of_mem _ hy)
    refine ⟨v :: vs, bx2, by simp [s], fun w hw => ?_, hb2, by simp only [List.map_cons, Function.comp, lcGo, e1, b_ok] at e2 ⊢; rw [e2]; rfl⟩
    rcases List.mem_cons.mp hw with rfl | hw
    · exact hv
    · exact hvs w hw
theorem lc_boxNR {f : W → Hq → R (Option W)} {t : Hq} {P : Int → Prop} {r : R (List W)} {l : List Nat} {bx : Ob} (hr : lcGo f (l.map (W.d ∘ ni)) (bx :: t) = r) (hb : IsBox bx) (e : ∀ x ∈ l, ∀ bx, IsBox bx → ∃ (v : Int) (bx' : Ob), IsBox bx' ∧ P v ∧ f (.d (ni x)) (bx :: t) = .ok (some (.d (.int v))) (bx' :: t)) :
    ∃ (vs : List Int) (bx' : Ob), vs.length = l.length ∧ (∀ v ∈ vs, P v) ∧ IsBox bx' ∧ r = .ok (vs.map fun v => W.d (.int v)) (bx' :: t) := by
  obtain ⟨vs, bx', s, p, hb', e⟩ := lc_boxN l bx hb e
  exact ⟨vs, bx', s, p, hb', hr ▸ e⟩
end Ev

namespace Ev
open PySem
theorem skips_ok (n b : Nat) {bx : Ob} (t : Hq) (hb : IsBox bx) {rows : List (Str × List Int)} (hr : rows.length ≤ 24) : ∃ sk bx', sk.Sublist (List.range rows.length) ∧ IsBox bx' ∧ callN tab (n + 2) b 28 [.l 0, .d (histD rows)] (bx :: t) = .ok (.d (skD sk)) (bx' :: t) := by
  obtain ⟨R, hR⟩ : ∃ R, callN tab (n + 2) b 28 [.l 0, .d (histD rows)] (bx :: t) = R := ⟨_, rfl⟩
  rw [hR]
  rw [call_of (fd := f_law_skips) _ _ rfl rfl] at hR
  simp [f_law_skips, hist_1, rg_nat (n := rows.length) (by omega)] at hR
  rw [rangeUp_nat] at hR
  generalize hz : lcGo _ (List.map (W.d ∘ ni) (List.range rows.length)) (bx :: t) = r at hR
  obtain ⟨sk, bx', s, hb', rfl⟩ := lc_boxR hz hb fun x _ bx hb => by
    obtain ⟨v, bx1, v0, v1, hb1, e⟩ := draw_ok n b t hb (m := 7) (by decide)
    refine ⟨decide (v = 0), bx1, hb1, ?_⟩
    by_cases hv : v = 0 <;> simp [e, hv]
  refine ⟨sk, bx', s, hb', ?_⟩
  rw [← hR]
  simp [skD]
end Ev

namespace Ev
open PySem
def timesF (k : Int) (two : Bool) : Int := if two then 2 * k + 1 else k + 1
theorem law_times_ok (n b : Nat) (h : Hq) (k : Int) (two : Bool) : callN tab (n + 1) b 33 [.d (.int k), .d (.str (ruleS two))] h = .ok (.d (.int (timesF k two))) h := by
  rw [call_of (fd := f_law_times) _ _ rfl rfl]
  have s1 : ¬ (("two" : Str) = "one") := by decide +kernel
  have m2 : evBin .Mult (.int 2) (.int k) = some (.int (2 * k)) := mul_l (by decide) (by decide)
  cases two <;> simp [f_law_times, ruleS, s1, m2, timesF]
end Ev

namespace Ev
open PySem
/-! the law's own classes, as rows of marks and candidates -/
structure FB (key : Nat → List Bool) (h0 : Hq) (found : List (List Nat)) (h : Hq) (ps : List (Nat × Nat)) : Prop where
  len : ps.length = found.length
  nd1 : (ps.map (·.1)).Nodup
  nd2 : (ps.map (·.2)).Nodup
  dis : ∀ x ∈ ps, ∀ y ∈ ps, x.1 ≠ y.2
  at_ : ∀ (i : Nat) (x : Nat × Nat) (l : List Nat), ps[i]? = some x → found[i]? = some l → h0.length < x.1 ∧ h0.length < x.2 ∧ h[x.1]? = some (.lsw [.d (.list ((key (l.headD 0)).map bo)), .l x.2]) ∧ h[x.2]? = some (.lst (l.map ni))
  top : h[h0.length]? = some (.lsw (ps.map fun x => .l x.1))
  pre : h.take h0.length = h0
section
variable {key : Nat → List Bool} {h0 h : Hq} {found : List (List Nat)} {ps : List (Nat × Nat)}
theorem FB.lt (f : FB key h0 found h ps) : h0.length < h.length := (List.getElem?_eq_some_iff.mp f.top).1
theorem FB.inside (f : FB key h0 found h ps) {i : Nat} {x : Nat × Nat} (e : ps[i]? = some x) : x.1 < h.length ∧ x.2 < h.length := by
  have hi : i < found.length := by rw [← f.len]; exact (List.getElem?_eq_some_iff.mp e).1
  obtain ⟨_, _, a, b⟩ := f.at_ i x _ e (List.getElem?_eq_getElem hi)
  exact ⟨(List.getElem?_eq_some_iff.mp a).1, (List.getElem?_eq_some_iff.mp b).1⟩
theorem FB.grow (f : FB key h0 found h ps) (o : Ob) : FB key h0 found (h ++ [o]) ps := by
  have get : ∀ {p : Nat} {x : Ob}, h[p]? = some x → (h ++ [o])[p]? = some x := fun {p x} e => by
    rw [List.getElem?_append_left (List.getElem?_eq_some_iff.mp e).1]; exact e
  refine ⟨f.len, f.nd1, f.nd2, f.dis, fun i x l e1 e2 => ?_, get f.top, ?_⟩
  · obtain ⟨a, b, c, d⟩ := f.at_ i x l e1 e2
    exact ⟨a, b, get c, get d⟩
  · rw [List.take_append_of_le_length (Nat.le_of_lt f.lt)]
    exact f.pre
theorem snoc_at {α : Type} {l : List α} {x y : α} {i : Nat} (e : (l ++ [x])[i]? = some y) : (i < l.length ∧ l[i]? = some y) ∨ (i = l.length ∧ y = x) := by
  rcases Nat.lt_trichotomy i l.length with h | h | h
  · rw [List.getElem?_append_left h] at e; exact .inl ⟨h, e⟩
  · subst h; simp at e; exact .inr ⟨rfl, e.symm⟩
  · rw [List.getElem?_eq_none (by simp; omega)] at e; cases e
theorem FB.snoc (f : FB key h0 found h ps) (c : Nat) : FB key h0 (found ++ [[c]]) ((h ++ [Ob.lst [.int c], .lsw [.d (.list ((key c).map bo)), .l h.length]]).set h0.length (.lsw ((ps ++ [(h.length + 1, h.length)]).map fun x => .l x.1))) (ps ++ [(h.length + 1, h.length)]) := by
  have hl := f.lt
  have mem_in : ∀ x ∈ ps, x.1 < h.length ∧ x.2 < h.length := fun x hx => by
    obtain ⟨i, hi⟩ := List.getElem?_of_mem hx
    exact f.inside hi
  refine ⟨by simp [f.len], ?_, ?_, ?_, fun i x m e1 e2 => ?_, ?_, ?_⟩
  · rw [List.map_append, List.nodup_append]
    refine ⟨f.nd1, by simp, fun a ha b hb => ?_⟩
    simp at hb
    obtain ⟨x, hx, rfl⟩ := List.mem_map.mp ha
    have := (mem_in x hx).1
    omega
  · rw [List.map_append, List.nodup_append]
    refine ⟨f.nd2, by simp, fun a ha b hb => ?_⟩
    simp at hb
    obtain ⟨x, hx, rfl⟩ := List.mem_map.mp ha
    have := (mem_in x hx).2
    omega
  · intro x hx y hy
    rcases List.mem_append.mp hx with hx | hx <;> rcases List.mem_append.mp hy with hy | hy
    · exact f.dis x hx y hy
    · rw [List.mem_singleton.mp hy]; have := (mem_in x hx).1; simp only; omega
    · rw [List.mem_singleton.mp hx]; have := (mem_in y hy).2; simp only; omega
    · rw [List.mem_singleton.mp hx, List.mem_singleton.mp hy]; simp only; omega
  · rcases snoc_at e1 with ⟨h1, e1⟩ | ⟨h1, rfl⟩
    · rw [List.getElem?_append_left (by rw [← f.len]; exact h1)] at e2
      obtain ⟨a1, a2, a3, a4⟩ := f.at_ i x m e1 e2
      obtain ⟨b1, b2⟩ := f.inside e1
      refine ⟨a1, a2, ?_, ?_⟩
      · rw [List.getElem?_set_ne (by omega), List.getElem?_append_left b1]; exact a3
      · rw [List.getElem?_set_ne (by omega), List.getElem?_append_left b2]; exact a4
    · rw [h1, f.len] at e2
      simp at e2
      subst e2
      refine ⟨by simp only; omega, hl, ?_, ?_⟩
      · simp only
        rw [List.getElem?_set_ne (by omega)]
        simp
      · simp only
        rw [List.getElem?_set_ne (by omega)]
        simp
  · rw [List.getElem?_set_self (by simp; omega)]
  · rw [List.take_set_of_le (Nat.le_refl _), List.take_append_of_le_length (Nat.le_of_lt hl)]
    exact f.pre
theorem FB.put (f : FB key h0 found h ps) {i : Nat} {x : Nat × Nat} (e : ps[i]? = some x) {l : List Nat} (el : found[i]? = some l) (hn : l ≠ []) (c : Nat) : FB key h0 (found.set i (l ++ [c])) (h.set x.2 (.lst ((l ++ [c]).map ni))) ps := by
  have hi : i < found.length := (List.getElem?_eq_some_iff.mp el).1
  obtain ⟨p0, p1, p2, p3⟩ := f.at_ i x _ e el
  have pl := (List.getElem?_eq_some_iff.mp p3).1
  have hd : (l ++ [c]).headD 0 = l.headD 0 := by cases l with | nil => exact absurd rfl hn | cons y l => rfl
  refine ⟨by simp [f.len], f.nd1, f.nd2, f.dis, fun j q m e1 e2 => ?_, ?_, ?_⟩
  · by_cases hj : j = i
    · subst hj
      rw [e] at e1
      cases e1
      rw [List.getElem?_set_self hi] at e2
      cases e2
      refine ⟨p0, p1, ?_, by rw [List.getElem?_set_self pl]⟩
      have := f.dis x (List.mem_of_getElem? e) x (List.mem_of_getElem? e)
      rw [List.getElem?_set_ne (fun z => this z.symm), hd]
      exact p2
    · rw [List.getElem?_set_ne (Ne.symm hj)] at e2
      obtain ⟨a1, a2, a3, a4⟩ := f.at_ j q m e1 e2
      have ne1 : x.2 ≠ q.1 := fun z => f.dis q (List.mem_of_getElem? e1) x (List.mem_of_getElem? e) z.symm
      have ne2 : x.2 ≠ q.2 := fun z => by
        have g1 : (ps.map (·.2))[i]? = some x.2 := by rw [List.getElem?_map, e]; rfl
        have g2 : (ps.map (·.2))[j]? = some q.2 := by rw [List.getElem?_map, e1]; rfl
        obtain ⟨_, g1⟩ := List.getElem?_eq_some_iff.mp g1
        obtain ⟨_, g2⟩ := List.getElem?_eq_some_iff.mp g2
        exact hj ((List.getElem_inj f.nd2).mp (g2.trans (z.symm.trans g1.symm)))
      exact ⟨a1, a2, by rw [List.getElem?_set_ne ne1]; exact a3, by rw [List.getElem?_set_ne ne2]; exact a4⟩
  · rw [List.getElem?_set_ne (by omega)]; exact f.top
  · rw [List.take_set_of_le (by omega)]; exact f.pre
end
end Ev

namespace Ev
open PySem
theorem bzip_at {ps : List (Nat × Nat)} {found : List (List Nat)} {i : Nat} {x : (Nat × Nat) × List Nat} (e : (ps.zip found)[i]? = some x) : ps[i]? = some x.1 ∧ found[i]? = some x.2 := by
  rw [List.getElem?_zip_eq_some] at e
  exact e
theorem bfm_find {key : Nat → List Bool} {c : Nat} : ∀ {ps : List (Nat × Nat)} {found : List (List Nat)}, ps.length = found.length →
    match gAt key found c with
    | some i => ∃ (p : Nat × Nat) (r : List W), ps[i]? = some p ∧ (ps.zip found).filterMap (fun x => if decide (key (x.2.headD 0) = key c) then some (W.l x.1.1) else none) = W.l p.1 :: r
    | none => (ps.zip found).filterMap (fun x => if decide (key (x.2.headD 0) = key c) then some (W.l x.1.1) else none) = []
  | [], [], _ => rfl
  | p :: ps, l :: found, h => by
    have ih := bfm_find (key := key) (c := c) (ps := ps) (found := found) (by simpa using h)
    unfold gAt at ih ⊢
    rw [List.findIdx?_cons, List.zip_cons_cons, List.filterMap_cons]
    by_cases e : key (l.headD 0) = key c
    · simp only [e, decide_true, if_true]
      exact ⟨p, _, rfl, rfl⟩
    · simp only [e, decide_false, Bool.false_eq_true, if_false]
      cases e2 : found.findIdx? (fun p => decide (key (p.headD 0) = key c)) with
      | none => rw [e2] at ih; simpa using ih
      | some i =>
        rw [e2] at ih
        obtain ⟨q, r, h1, h2⟩ := ih
        exact ⟨q, r, by simpa using h1, h2⟩
  | [], _ :: _, h => by simp at h
  | _ :: _, [], h => by simp at h
theorem blclasses_ok (n b : Nat) (h0 : Hq) {rows : List (Str × List Int)} (hR : Rows rows) (hr : rows.length ≤ 24) (sk : List Nat) :
    callN tab (n + 3) b 32 [.d (histD rows), .d (skD sk)] h0 = .ok (.d (.list ((fnd rows sk).map fun p => .tuple (p.map ni)))) h0 := by
  rw [call_of (fd := f_law_classes) _ _ rfl rfl]
  show finR true h0.length (evSs h0.length (callN tab (n + 2)) f_law_classes.body [some (.d (histD rows)), some (.d (skD sk)), none, none, none, none, none, none] h0) = _
  unfold fnd
  obtain ⟨T, hT⟩ : ∃ T, tst rows.length sk = T := ⟨_, rfl⟩
  have tlt : ∀ m ∈ T, m < rows.length := fun m hm => tst_lt (hT ▸ hm)
  obtain ⟨key, hkey⟩ : ∃ key, keyOf (Ab rows) T = key := ⟨_, rfl⟩
  have rg : rgOk 0 rows.length = true := rg_nat (by omega)
  obtain ⟨env', h', e3, x3, x4, x6, found, ps, hfound, f, rfl⟩ := for_up (f := fun w env h => evSs h0.length (callN tab (n + 2)) law_classes_b0 (env.set 3 (some w)) h) rows.length (fun c env h => ∃ (x3 x4 x6 : Option W) (found : List (List Nat)) (ps : List (Nat × Nat)), found = grp key c ∧ FB key h0 found h ps ∧
      env = [some (.d (histD rows)), some (.d (skD sk)), some (.l h0.length), x3, x4, none, x6, none])
    (env := [some (.d (histD rows)), some (.d (skD sk)), some (.l h0.length), none, none, none, none, none]) (h := h0 ++ [.lsw []]) ⟨none, none, none, [], [], rfl, ⟨rfl, by simp, by simp, by simp, fun i p l e => by simp at e, by simp, by simp⟩, rfl⟩ fun c env h hc i => by
      obtain ⟨x3, x4, x6, found, ps, hfound, f, rfl⟩ := i
      have fl : found.length ≤ 24 := by have := grp_len key c; rw [← hfound] at this; omega
      have fne := grp_ne key c
      have fsz := grp_sum key c
      rw [← hfound] at fne fsz
      have s0 : evS h0.length (callN tab (n + 2)) law_classes_b0_s0 [some (.d (histD rows)), some (.d (skD sk)), some (.l h0.length), some (.d (.int (c : Nat))), x4, none, x6, none] h = .ok (.nx [some (.d (histD rows)), some (.d (skD sk)), some (.l h0.length), some (.d (.int (c : Nat))), some (.d (.list ((key c).map bo))), none, x6, none]) h := by
        simp [hist_1, rg]
        rw [rangeUp_nat, lc_filter (p := fun m => !decide (m ∈ sk)) (g := fun m => W.d (bo (Ab rows m c)))]
        · rw [show (List.range rows.length).filter (fun m => !decide (m ∈ sk)) = T from hT]
          rw [← hkey]
          simp [keyOf, Function.comp_def]
        · intro m hm
          have br := breaks_ok n h0.length h hR hr (List.mem_range.mp hm) (c : Int)
          by_cases hs : m ∈ sk
          · simp [skD, hs]
          · simp [skD, hs, br, Ab]
      obtain ⟨hm, hhm⟩ : ∃ l, (ps.zip found).filterMap (fun x => if decide (key (x.2.headD 0) = key c) then some (W.l x.1.1) else none) = l := ⟨_, rfl⟩
      have s1 : evS h0.length (callN tab (n + 2)) law_classes_b0_s1 [some (.d (histD rows)), some (.d (skD sk)), some (.l h0.length), some (.d (.int (c : Nat))), some (.d (.list ((key c).map bo))), none, x6, none] h = .ok (.nx [some (.d (histD rows)), some (.d (skD sk)), some (.l h0.length), some (.d (.int (c : Nat))), some (.d (.list ((key c).map bo))), none, some (.l h.length), none]) (h ++ [.lsw hm]) := by
        have em : (ps.map fun x => W.l x.1) = (ps.zip found).map fun x => W.l x.1.1 := by
          have : ps = (ps.zip found).map Prod.fst := (List.map_fst_zip (by rw [f.len]; exact Nat.le_refl _)).symm
          conv => lhs; rw [this]
          rw [List.map_map]
          rfl
        have it : itemsOf h (.l h0.length) = some (ps.map fun x => W.l x.1) := it_w f.top
        rw [s_asg, x_lc, x_ite, x_var]
        simp only [List.getElem?_cons_succ, List.getElem?_cons_zero, b_ok, it, live_l]
        rw [em, lc_go (fun x => if decide (key (x.2.headD 0) = key c) then some (W.l x.1.1) else none) (ps.zip found)]
        · simp only [noEx_ok, b_ok, lcEnd_2, hhm, bind_1, List.set_cons_succ, List.set_cons_zero]
        · intro x hx
          obtain ⟨i, hi⟩ := List.getElem?_of_mem hx
          obtain ⟨e1, e2⟩ := bzip_at hi
          obtain ⟨p, l⟩ := x
          simp only at e1 e2
          obtain ⟨a1, a2, a3, a4⟩ := f.at_ i p l e1 e2
          have ix : evIdx h (.l p.1) (.d (.int 0)) = .ok (.d (.list ((key (l.headD 0)).map bo))) h := by simp only [evIdx, a3, atZ_0, List.getElem?_cons_zero]
          simp only [bind_1, x_some, x_cmp, x_idx, x_var, x_lit, List.set_cons_succ, List.set_cons_zero, List.getElem?_cons_succ, List.getElem?_cons_zero, b_ok, ix, cmp_d, eq_d (show (dpt (.list ((key (l.headD 0)).map bo)) || dpt (.list ((key c).map bo))) = true by simp), eqv_lb, liftO_s, boolO_b]
          cases hd2 : decide (key (l.headD 0) = key c) with
          | true => simp only [x_var, List.getElem?_cons_succ, List.getElem?_cons_zero, b_ok, if_true, kpt_s]
          | false => simp only [Bool.false_eq_true, if_false, kpt_s]
      have nx : grp key (c + 1) = gStep key found c := by simp only [grp, ← hfound]
      have f2 := f.grow (.lsw hm)
      have hl := f2.lt
      have hml : hm.length ≤ 24 := by
        rw [← hhm]
        have := List.length_filterMap_le (fun x : (Nat × Nat) × List Nat => if decide (key (x.2.headD 0) = key c) then some (W.l x.1.1) else none) (ps.zip found)
        rw [List.length_zip, f.len] at this
        omega
      have top2 : (h ++ [Ob.lsw hm])[h.length]? = some (.lsw hm) := by simp
      have cmp : cmpW .Eq (.l h.length) (.d (.list [])) (h ++ [Ob.lsw hm]) = .ok (.d (.bool hm.isEmpty)) (h ++ [Ob.lsw hm]) := eq_nil_w top2 fun w hw => by
        rw [← hhm] at hw
        obtain ⟨x, hx, e⟩ := List.mem_filterMap.mp hw
        obtain ⟨i, hi⟩ := List.getElem?_of_mem hx
        obtain ⟨e1, e2⟩ := bzip_at hi
        obtain ⟨_, _, a3, a4⟩ := f2.at_ i x.1 x.2 e1 e2
        split at e
        · cases e
          refine ⟨.list [.list ((key (x.2.headD 0)).map bo), .list (x.2.map ni)], ?_⟩
          simp only [toDn, a3, a4, List.map_cons, List.map_nil, allO, Option.map_some]
        · cases e
      have fm := bfm_find (key := key) (c := c) (ps := ps) (found := found) f.len
      rw [hhm] at fm
      show ∃ env' h', evSs h0.length (callN tab (n + 2)) law_classes_b0 [some (.d (histD rows)), some (.d (skD sk)), some (.l h0.length), some (.d (.int (c : Nat))), x4, none, x6, none] h = .ok (.nx env') h' ∧ _
      unfold law_classes_b0
      rw [seq_nx s0, seq_nx s1, nx]
      unfold gStep
      cases hg : gAt key found c with
      | none =>
        rw [hg] at fm
        simp only at fm
        subst fm
        have f3 := f2.snoc c
        refine ⟨_, _, ?_, some (.d (.int (c : Nat))), some (.d (.list ((key c).map bo))), some (.l h.length), _, _, rfl, f3, rfl⟩
        have lt' : (ps.map fun x => W.l x.1).length < SZ ∧ h0.length ≤ h0.length := ⟨by rw [List.length_map, f.len]; unfold SZ; omega, Nat.le_refl _⟩
        have rc : recvL (h ++ [Ob.lsw []]) (.l h0.length) = true := by simp only [recvL, f2.top]
        have top3 : ((h ++ [Ob.lsw []]) ++ [Ob.lst [.int (c : Nat)], .lsw [.d (.list ((key c).map bo)), .l (h ++ [Ob.lsw []]).length]])[h0.length]? = some (.lsw (ps.map fun x => .l x.1)) := by rw [List.getElem?_append_left hl]; exact f2.top
        have ap : evApp h0.length (.l h0.length) (.l ((h ++ [Ob.lsw []]).length + 1)) ((h ++ [Ob.lsw []]) ++ [Ob.lst [.int (c : Nat)], .lsw [.d (.list ((key c).map bo)), .l (h ++ [Ob.lsw []]).length]]) = .ok () (((h ++ [Ob.lsw []]) ++ [Ob.lst [.int (c : Nat)], .lsw [.d (.list ((key c).map bo)), .l (h ++ [Ob.lsw []]).length]]).set h0.length (.lsw ((ps.map fun x => .l x.1) ++ [.l ((h ++ [Ob.lsw []]).length + 1)]))) := by
          simp only [evApp, top3, lt', and_self, if_true, Nat.le_refl]
        have asc : ∀ (H : Hq) (a c2 : Ob), H ++ [a] ++ [c2] = H ++ [a, c2] := fun H a c2 => by simp
        have l2 : ∀ (H : Hq) (a : Ob), (H ++ [a]).length = H.length + 1 := fun H a => by simp
        simp only [s_cons, s_ifs, x_cmp, x_var, List.getElem?_cons_succ, List.getElem?_cons_zero, b_ok, x_lst, x_nil, allD_0, cmp, List.isEmpty_nil, law_classes_b1, s_app, rc, if_true, x_lsw, x_lstM, x_cons, allD_c, Option.map_some]
        rw [asc (h ++ [Ob.lsw []]), l2 (h ++ [Ob.lsw []])]
        simp only [ap, b_ok, s_nil, List.map_append, List.map_cons, List.map_nil]
      | some i =>
        rw [hg] at fm
        obtain ⟨p, r, ep, er⟩ := fm
        subst er
        have hi : i < found.length := by rw [← f.len]; exact (List.getElem?_eq_some_iff.mp ep).1
        have fn := fne _ (List.getElem_mem hi)
        have f3 := f2.put ep (List.getElem?_eq_getElem hi) fn c
        obtain ⟨a1, a2, a3, a4⟩ := f2.at_ i p _ ep (List.getElem?_eq_getElem hi)
        have gi : found[i]?.getD [] = found[i] := by rw [List.getElem?_eq_getElem hi]; rfl
        refine ⟨_, _, ?_, some (.d (.int (c : Nat))), some (.d (.list ((key c).map bo))), some (.l h.length), _, _, rfl, by simp only [gi]; exact f3, rfl⟩
        have ix : evIdx (h ++ [Ob.lsw (.l p.1 :: r)]) (.l h.length) (.d (.int 0)) = .ok (.l p.1) (h ++ [Ob.lsw (.l p.1 :: r)]) := by simp only [evIdx, top2, atZ_0, List.getElem?_cons_zero]
        have ix2 : evIdx (h ++ [Ob.lsw (.l p.1 :: r)]) (.l p.1) (.d (.int 1)) = .ok (.l p.2) (h ++ [Ob.lsw (.l p.1 :: r)]) := by simp only [evIdx, a3, atZ_1, List.getElem?_cons_succ, List.getElem?_cons_zero]
        have sz : (found[i].map ni).length < 1000000 := by
          have := fsz _ (List.getElem_mem hi)
          rw [List.length_map]; omega
        simp only [s_cons, s_ifs, x_cmp, x_var, List.getElem?_cons_succ, List.getElem?_cons_zero, b_ok, x_lst, x_nil, allD_0, Option.map_some, cmp, List.isEmpty_cons, law_classes_b2, s_app, x_idx, x_lit, ix, ix2, recvL_o a4, if_true, app_o a4 sz, s_nil, List.map_append, List.map_cons, List.map_nil]
  have it : itemsOf h' (.l h0.length) = some (ps.map fun x => W.l x.1) := it_w f.top
  have em : (ps.map fun x => W.l x.1) = (ps.zip found).map fun x => W.l x.1.1 := by
    have : ps = (ps.zip found).map Prod.fst := (List.map_fst_zip (by rw [f.len]; exact Nat.le_refl _)).symm
    conv => lhs; rw [this]
    rw [List.map_map]
    rfl
  have e4 : evS h0.length (callN tab (n + 2)) law_classes_s2 [some (.d (histD rows)), some (.d (skD sk)), some (.l h0.length), x3, x4, none, x6, none] h' = .ok (.rt (.d (.list (found.map fun p => .tuple (p.map ni))))) h' := by
    rw [s_ret, x_lc, x_ite, x_var]
    simp only [List.getElem?_cons_succ, List.getElem?_cons_zero, b_ok, it, live_l]
    rw [em, lc_map (g := fun x => W.d (.tuple (x.2.map ni))) (ps.zip found)]
    · have e5 : (ps.zip found).map (fun x => PyData.tuple (x.2.map ni)) = found.map fun p => PyData.tuple (p.map ni) := by
        have : found = (ps.zip found).map Prod.snd := (List.map_snd_zip (by rw [f.len]; exact Nat.le_refl _)).symm
        conv => rhs; rw [this]
        rw [List.map_map]
        rfl
      simp only [noEx_ok, b_ok, lcEnd_m, e5]
    · intro x hx
      obtain ⟨i, hi⟩ := List.getElem?_of_mem hx
      obtain ⟨e1, e2⟩ := bzip_at hi
      obtain ⟨a1, a2, a3, a4⟩ := f.at_ i x.1 x.2 e1 e2
      have ix : evIdx h' (.l x.1.1) (.d (.int 1)) = .ok (.l x.1.2) h' := by simp only [evIdx, a3, atZ_1, List.getElem?_cons_succ, List.getElem?_cons_zero]
      simp only [bind_1, x_none, b_ok, boolO_n, x_blt, x_cons, x_idx, x_lit, x_var, List.set_cons_succ, List.set_cons_zero, List.getElem?_cons_succ, List.getElem?_cons_zero, x_nil, ix, tup_o a4, kpt_s]
  unfold f_law_classes
  simp only
  rw [seq_nx (s := law_classes_s0) (env' := [some (.d (histD rows)), some (.d (skD sk)), some (.l h0.length), none, none, none, none, none]) (h' := h0 ++ [.lsw []]) (by simp),
    seq_nx (s := law_classes_s1) (env' := [some (.d (histD rows)), some (.d (skD sk)), some (.l h0.length), x3, x4, none, x6, none]) (h' := h') (by simp [s_for, hist_1, rg, e3]), seq_rt e4]
  rw [hT, hkey]
  simp [f.pre, hfound]
end Ev

namespace Ev
open PySem
def fit1 (rows : List (Str × List Int)) (as : List (Str × Int)) (k : Int) (two : Bool) (c : Int) (m : Nat) : Bool := !(decide (c ∈ anc rows m) && decide (k < (cnt as "works" m : Int))) && !(!decide (c ∈ anc rows m) && decide ((if two then k else 0) < (cnt as "broken" m : Int)))
def fitL (rows : List (Str × List Int)) (as : List (Str × Int)) (k : Int) (two : Bool) (c : Int) : Bool := (List.range rows.length).all fun m => fit1 rows as k two c m
def rangeI (n : Nat) : List Int := (List.range n).map fun i => ((i : Nat) : Int)
def canL (rows : List (Str × List Int)) (as : List (Str × Int)) (k : Int) (two : Bool) : List Int := (rangeI rows.length).filter (fitL rows as k two)

theorem rangeI_succ (j : Nat) : rangeI (j + 1) = rangeI j ++ [(j : Int)] := by simp [rangeI, List.range_succ]
theorem rangeI_len (j : Nat) : (rangeI j).length = j := by simp [rangeI]

end Ev

namespace Ev
open PySem
theorem rangeUp_all {n : Nat} {p : W → Bool} : (rangeUp 0 n).all p = (List.range n).all fun m => p (.d (.int m)) := by
  unfold rangeUp
  rw [List.all_map]
  simp [Function.comp_def]
theorem fits_ok (n b : Nat) (h : Hq) {rows : List (Str × List Int)} (hR : Rows rows) (hr : rows.length ≤ 24) (as : List (Str × Int)) (k : Int) (two : Bool) (c : Int) :
    callN tab (n + 3) b 30 [.d (histD rows), .d (ansD as), .d (.int k), .d (.str (ruleS two)), .d (.int c)] h = .ok (.d (.bool (fitL rows as k two c))) h := by
  rw [call_of (fd := f_law_fits) _ _ rfl rfl]
  have s1 : ¬ (("two" : Str) = "one") := by decide +kernel
  have L := forGo_all (h := h) (f := fun w env h => match bindT [5] false w env with
        | some env => evSs b (callN tab (n + 2)) law_fits_b0 env h
        | none => .bad) (fun env => ∃ x1 x2 x3, env = [some (.d (histD rows)), some (.d (ansD as)), some (.d (.int k)), some (.d (.str (ruleS two))), some (.d (.int c)), x1, x2, x3]) (fun w => match w with
        | .d (.int m) => fit1 rows as k two c m.toNat
        | _ => false) (.d (.bool false)) (rangeUp 0 rows.length) [some (.d (histD rows)), some (.d (ansD as)), some (.d (.int k)), some (.d (.str (ruleS two))), some (.d (.int c)), none, none, none] ⟨_, _, _, rfl⟩ fun w env hw i => by
          obtain ⟨m, rfl, m0, m1⟩ := rangeUp_mem hw
          obtain ⟨x1, x2, x3, rfl⟩ := i
          obtain ⟨u, rfl⟩ := Int.eq_ofNat_of_zero_le m0
          have br := breaks_ok n b h hR hr (m := u) (by omega) c
          have ww := count_ok (n + 1) b h as "works" u
          have wb := count_ok (n + 1) b h as "broken" u
          obtain ⟨w, hw⟩ : ∃ w : Int, (cnt as "works" u : Int) = w := ⟨_, rfl⟩
          obtain ⟨bb, hb⟩ : ∃ w : Int, (cnt as "broken" u : Int) = w := ⟨_, rfl⟩
          rw [hw] at ww
          rw [hb] at wb
          have ef : fit1 rows as k two c u = (!(decide (c ∈ anc rows u) && decide (k < w)) && !(!decide (c ∈ anc rows u) && decide ((if two then k else 0) < bb))) := by
            unfold fit1
            rw [hw, hb]
          simp only [Int.toNat_natCast, ef]
          by_cases h3 : c ∈ anc rows u
          · by_cases h2 : k < w
            · simp [h3, h2, law_fits_b0, law_fits_b1, ww, wb, br]
            · refine ⟨fun _ => ⟨[some (.d (histD rows)), some (.d (ansD as)), some (.d (.int k)), some (.d (.str (ruleS two))), some (.d (.int c)), some (.d (.int u)), some (.d (.int w)), some (.d (.int bb))], ?_, _, _, _, rfl⟩, fun z => by simp [h3, h2] at z⟩
              simp [h3, h2, law_fits_b0, law_fits_b1, ww, wb, br]
          · cases two
            · by_cases h2 : 0 < bb
              · simp [h3, h2, law_fits_b0, law_fits_b1, law_fits_b2, ww, wb, br, ruleS]
              · refine ⟨fun _ => ⟨[some (.d (histD rows)), some (.d (ansD as)), some (.d (.int k)), some (.d (.str (ruleS false))), some (.d (.int c)), some (.d (.int u)), some (.d (.int w)), some (.d (.int bb))], ?_, _, _, _, rfl⟩, fun z => by simp [h3, h2] at z⟩
                simp [h3, h2, law_fits_b0, law_fits_b1, ww, wb, br, ruleS]
            · by_cases h2 : k < bb
              · simp [h3, h2, law_fits_b0, law_fits_b1, law_fits_b2, ww, wb, br, ruleS, s1]
              · refine ⟨fun _ => ⟨[some (.d (histD rows)), some (.d (ansD as)), some (.d (.int k)), some (.d (.str (ruleS true))), some (.d (.int c)), some (.d (.int u)), some (.d (.int w)), some (.d (.int bb))], ?_, _, _, _, rfl⟩, fun z => by simp [h3, h2] at z⟩
                simp [h3, h2, law_fits_b0, law_fits_b1, ww, wb, br, ruleS, s1]
  rw [rangeUp_all] at L
  have rg : rgOk 0 rows.length = true := rg_of (by omega) (by omega) (by omega) (by omega)
  have ea : ((List.range rows.length).all fun m => (match W.d (PyData.int (m : Nat)) with
        | .d (.int m) => fit1 rows as k two c m.toNat
        | _ => false)) = fitL rows as k two c := rfl
  rw [ea] at L
  cases hf : fitL rows as k two c with
  | true =>
    obtain ⟨env', e, i⟩ := L.1 hf
    simp only [bind_1] at e
    simp [f_law_fits, hist_1, s_for, rg, e]
  | false =>
    have e := L.2 hf
    simp only [bind_1] at e
    simp [f_law_fits, hist_1, s_for, rg, e]

theorem rangeUp_map (n : Nat) : rangeUp 0 n = (rangeI n).map (W.d ∘ PyData.int) := by
  unfold rangeUp rangeI
  rw [List.map_map]
  simp [Function.comp_def]
theorem can_be_ok (n b : Nat) (h : Hq) {rows : List (Str × List Int)} (hR : Rows rows) (hr : rows.length ≤ 24) (as : List (Str × Int)) (k : Int) (two : Bool) :
    callN tab (n + 4) b 31 [.d (histD rows), .d (ansD as), .d (.int k), .d (.str (ruleS two))] h = .ok (.d (.tuple ((canL rows as k two).map .int))) h := by
  rw [call_of (fd := f_law_can_be) _ _ rfl rfl]
  have rg : rgOk 0 rows.length = true := rg_of (by omega) (by omega) (by omega) (by omega)
  simp [f_law_can_be, hist_1, rg]
  rw [rangeUp_map, lc_filter (p := fitL rows as k two) (g := fun m => W.d (.int m)) (rangeI rows.length)]
  · simp [canL]
  · intro c _
    cases hf : fitL rows as k two c <;> simp [fits_ok n b h hR hr, hf]

theorem cnt_take {as bs : List (Str × Int)} (h : bs.Sublist as) (s : Str) (m : Int) : cnt bs s m ≤ cnt as s m := (h.filter _).length_le
theorem fitL_mono {rows : List (Str × List Int)} {as bs : List (Str × Int)} (h : bs.Sublist as) {k : Int} {two : Bool} {c : Int} (f : fitL rows as k two c = true) : fitL rows bs k two c = true := by
  unfold fitL at f ⊢
  rw [List.all_eq_true] at f ⊢
  intro m hm
  have f1 := f m hm
  have h1 := cnt_take h "works" m
  have h2 := cnt_take h "broken" m
  unfold fit1 at f1 ⊢
  simp only [Bool.and_eq_true, Bool.not_eq_true', Bool.and_eq_false_iff, decide_eq_false_iff_not, Bool.not_eq_false'] at f1 ⊢
  exact ⟨f1.1.imp id fun g => by omega, f1.2.imp id fun g => by omega⟩
end Ev

namespace Ev
open PySem
def toldK (L : List (Nat × Bool)) : List (Int × PyData) := L.map fun x => ((x.1 : Int), .str (wd x.2))
def lk (L : List (Nat × Bool)) (m : Nat) : Option Bool := (L.find? fun x => decide (x.1 = m)).map (·.2)
theorem iget_told (m : Nat) : ∀ L : List (Nat × Bool), iget (toldK L) (m : Int) = (lk L m).map fun b => .str (wd b)
  | [] => rfl
  | x :: L => by
    have ih := iget_told m L
    unfold iget toldK lk at ih ⊢
    rw [List.map_cons, List.find?_cons, List.find?_cons]
    by_cases e : x.1 = m
    · have e' : ((x.1 : Nat) : Int) = (m : Int) := by rw [e]
      simp only [e, decide_true, Option.map_some]
    · have e' : ¬ ((x.1 : Nat) : Int) = (m : Int) := by omega
      simp only [e, e', decide_false]
      exact ih
theorem iput_told {m : Nat} {br : Bool} {L : List (Nat × Bool)} (h : lk L m = none) : iput (toldK L) (m : Int) (.str (wd br)) = toldK (L ++ [(m, br)]) := by
  unfold iput
  rw [iget_told, h]
  simp [toldK]
theorem lk_none {L : List (Nat × Bool)} {m : Nat} : lk L m = none ↔ m ∉ L.map (·.1) := by
  unfold lk
  rw [Option.map_eq_none_iff, List.find?_eq_none]
  simp only [List.mem_map, not_exists, not_and, decide_eq_true_eq]
theorem lk_some {L : List (Nat × Bool)} {m : Nat} {br : Bool} (h : lk L m = some br) : (m, br) ∈ L := by
  unfold lk at h
  obtain ⟨x, e, rfl⟩ := Option.map_eq_some_iff.mp h
  have h1 := List.find?_some e
  have h2 := List.mem_of_find?_eq_some e
  have : x.1 = m := of_decide_eq_true h1
  rw [← this]
  exact h2
theorem fewest_ok (n b : Nat) (h : Hq) {rows : List (Str × List Int)} (hR : Rows rows) (hr : rows.length ≤ 24) (sk : List Nat) {k : Int} (h0 : 0 ≤ k) (hM : k ≤ 100) (hc : (k + 2).toNat ^ (fnd rows sk).length ≤ 20000) :
    callN tab (n + pot (List.replicate (fnd rows sk).length k) + 7) b 16 [.d (histD rows), .d (skD sk), .d (.int k)] h = .ok (.d (.int (V (rws rows sk) (List.replicate (fnd rows sk).length k)))) h := by
  rw [call_of (fd := f_fewest) _ _ rfl rfl]
  have fl := fnd_len (rows := rows) (sk := sk)
  have st := start_ok (n + pot (List.replicate (fnd rows sk).length k) + 3) b h hR hr sk k
  have ff := fewest_from_ok n b h hR hr sk (st := List.replicate (fnd rows sk).length k) (N := (fnd rows sk).length) h0 hM (by omega) ⟨by simp, fun x hx => by have := (List.mem_replicate.mp hx).2; omega⟩ hc
  simp [f_fewest, st, ff]
theorem fewest_by_ok (n b : Nat) (h : Hq) {rows : List (Str × List Int)} (hR : Rows rows) (hr : rows.length ≤ 24) (sk : List Nat) (hN : (fnd rows sk).length ≤ 8) {k : Int} (h0 : 0 ≤ k) (h3 : k ≤ 3) (two : Bool) :
    callN tab (n + pot (List.replicate (fnd rows sk).length 0) + 8) b 18 [.d (histD rows), .d (skD sk), .d (.int k), .d (.str (ruleS two))] h = .ok (.d (.int (timesF k two * V (rws rows sk) (List.replicate (fnd rows sk).length 0)))) h := by
  rw [call_of (fd := f_fewest_by_make) _ _ rfl rfl]
  have fe := fewest_ok n b h hR hr sk (k := 0) (by decide) (by decide) (Nat.le_trans (Nat.pow_le_pow_right (by decide) hN) (by decide))
  have s1 : ¬ (("one" : Str) = "two") := by decide +kernel
  have m2 : evBin .Mult (.int 2) (.int k) = some (.int (2 * k)) := mul_l (by decide) (by decide)
  have m1 : ∀ i, evBin .Mult (.int (2 * k + 1)) (.int i) = some (.int ((2 * k + 1) * i)) := fun i => mul_l (by omega) (by omega)
  have m3 : ∀ i, evBin .Mult (.int (k + 1)) (.int i) = some (.int ((k + 1) * i)) := fun i => mul_l (by omega) (by omega)
  cases two
  · simp [f_fewest_by_make, ruleS, s1, m2, fe, m3, timesF]
  · simp [f_fewest_by_make, ruleS, s1, m2, fe, m1, timesF]
def inL (left : List Int) (p : List Nat) : Bool := decide (0 < (p.filter fun c : Nat => decide ((c : Int) ∈ left)).length)
def alv (st : List Int) : Nat := (st.filter fun x => decide (0 ≤ x)).length
def wrs (rows : List (Str × List Int)) (sk : List Nat) (st : List Int) (m : Nat) : Bool :=
  decide (V (rws rows sk) (aft rows sk st m true) < V (rws rows sk) (aft rows sk st m false) ∨ (V (rws rows sk) (aft rows sk st m true) = V (rws rows sk) (aft rows sk st m false) ∧ (alv (aft rows sk st m true) : Int) < alv (aft rows sk st m false)))
section
variable (rows : List (Str × List Int)) (sk : List Nat) (st : List Int) (p : Nat) (as : List (Str × Int)) (m : Nat) (k : Int) (two : Bool)
def nE (x8 x9 x10 x11 x12 x13 x14 x15 : Option W) : Vars := [some (.d (histD rows)), some (.d (skD sk)), some (.d (stD st)), some (.l p), some (.d (ansD as)), some (.d (.int m)), some (.d (.int k)), some (.d (.str (ruleS two))), x8, x9, x10, x11, x12, x13, x14, x15]
end
theorem alive_ok (b : Nat) (C : CallF) (env : Vars) (h : Hq) {st : List Int} (e : env[12]? = some (some (.d (stD st)))) (l : 14 < env.length) :
    evE b C (.blt .len (.cons (.lc 0 [14] false (.e (.var 12)) (.some (.cmp .GtE (.var 14) (.lit (.int 0)))) (.lit (.int 1))) .nil)) env h = .ok (.d (.int (alv st))) h := by
  have it : itemsOf h (.d (stD st)) = some (st.map (W.d ∘ PyData.int)) := by unfold stD; rw [it_t, List.map_map]
  simp [e, it]
  rw [lc_filter (emb := W.d ∘ PyData.int) (p := fun x => decide (0 ≤ x)) (g := fun _ => W.d (.int 1))]
  · simp [alv]
  · intro x _
    by_cases hx : 0 ≤ x <;> simp [hx, l]
section
variable {rows : List (Str × List Int)} {sk : List Nat} {st : List Int} {p : Nat} {as : List (Str × Int)} {m : Nat} {k : Int} {two : Bool} {L : List (Nat × Bool)} {h : Hq}
theorem next_held (n b : Nat) (e : hF (cnt as "works" m) (cnt as "broken" m) k two ≠ "") :
    callN tab (n + 3) b 34 [.d (histD rows), .d (skD sk), .d (stD st), .l p, .d (ansD as), .d (.int m), .d (.int k), .d (.str (ruleS two))] h = .ok (.d (.list [.str (hF (cnt as "works" m) (cnt as "broken" m) k two), stD st])) h := by
  rw [call_of (fd := f_law_next_answer) _ _ rfl rfl]
  have hb := held_back_ok n b h as m k two
  simp [f_law_next_answer, hb, law_next_answer_b0, e]
theorem next_told (n b : Nat) (e : hF (cnt as "works" m) (cnt as "broken" m) k two = "") (hp : h[p]? = some (.dki (toldK L))) {br : Bool} (l : lk L m = some br) :
    callN tab (n + 3) b 34 [.d (histD rows), .d (skD sk), .d (stD st), .l p, .d (ansD as), .d (.int m), .d (.int k), .d (.str (ruleS two))] h = .ok (.d (.list [.str (wd br), stD st])) h := by
  rw [call_of (fd := f_law_next_answer) _ _ rfl rfl]
  have hb := held_back_ok n b h as m k two
  rw [e] at hb
  have ci := dki_in (i := (m : Int)) hp
  rw [iget_told, l] at ci
  have ix := dki_at (i := (m : Int)) (y := .str (wd br)) hp (by rw [iget_told, l]; rfl)
  simp [f_law_next_answer, hb, law_next_answer_b1, ci, ix]
theorem next_new (n b : Nat) (hR : Rows rows) (hr : rows.length ≤ 24) (hN : (fnd rows sk).length ≤ 8) (hd : Dom (fnd rows sk).length 0 st) (hm : m < rows.length) (e : hF (cnt as "works" m) (cnt as "broken" m) k two = "") (hp : h[p]? = some (.dki (toldK L))) (hL : L.length < 100000) (l : lk L m = none) :
    callN tab (n + 15) b 34 [.d (histD rows), .d (skD sk), .d (stD st), .l p, .d (ansD as), .d (.int m), .d (.int k), .d (.str (ruleS two))] h = .ok (.d (.list [.str (wd (!wrs rows sk st m)), stD (aft rows sk st m (!wrs rows sk st m))])) (h.set p (.dki (toldK (L ++ [(m, !wrs rows sk st m)])))) := by
  rw [call_of (fd := f_law_next_answer) _ _ rfl rfl]
  have hb := held_back_ok (n + 12) b h as m k two
  rw [e] at hb
  have ci := dki_in (i := (m : Int)) hp
  rw [iget_told, l] at ci
  have hl : p < h.length := (List.getElem?_eq_some_iff.mp hp).1
  have a1 := after_ok (n + 11) b h hR hr (sk := sk) (st := st) hd.1 hm true
  have a2 := after_ok (n + 11) b h hR hr (sk := sk) (st := st) hd.1 hm false
  have pt : ∀ s : List Int, Dom (fnd rows sk).length 0 s → pot s ≤ 8 := fun s hs => by
    unfold pot
    have g : ((List.range s.length).map fun k => (s[k]?.getD 0 + 1).toNat).sum ≤ s.length := by
      have : ∀ l : List Nat, (l.map fun k => (s[k]?.getD 0 + 1).toNat).sum ≤ l.length := by
        intro l
        induction l with
        | nil => simp
        | cons x l ih =>
          have : (s[x]?.getD 0 + 1).toNat ≤ 1 := by
            by_cases hx : x < s.length
            · have := (hs.2 _ (List.getElem_mem hx)).2
              simp only [List.getElem?_eq_getElem hx, Option.getD_some]
              omega
            · rw [List.getElem?_eq_none (by omega)]; decide
          simp only [List.map_cons, List.sum_cons, List.length_cons]
          omega
      have := this (List.range s.length)
      rwa [List.length_range] at this
    rw [hs.1] at g
    rw [hs.1]
    omega
  have d1 : Dom (fnd rows sk).length 0 (aft rows sk st m true) := dom_low (by decide) hd _
  have d2 : Dom (fnd rows sk).length 0 (aft rows sk st m false) := dom_low (by decide) hd _
  have fl := fnd_len (rows := rows) (sk := sk)
  have hc : ((0 : Int) + 2).toNat ^ (fnd rows sk).length ≤ 20000 := Nat.le_trans (Nat.pow_le_pow_right (by decide) hN) (by decide)
  obtain ⟨s1, hs1⟩ : ∃ s, aft rows sk st m true = s := ⟨_, rfl⟩
  obtain ⟨s2, hs2⟩ : ∃ s, aft rows sk st m false = s := ⟨_, rfl⟩
  have f1 := fewest_from_ok (n + 8 - pot s1) b h hR hr sk (st := s1) (N := (fnd rows sk).length) (M := 0) (by decide) (by decide) (by omega) (hs1 ▸ d1) hc
  have f2 := fewest_from_ok (n + 8 - pot s2) b h hR hr sk (st := s2) (N := (fnd rows sk).length) (M := 0) (by decide) (by decide) (by omega) (hs2 ▸ d2) hc
  have q1 := pt _ (hs1 ▸ d1)
  have q2 := pt _ (hs2 ▸ d2)
  rw [show n + 8 - pot s1 + pot s1 + 6 = n + 14 by omega] at f1
  rw [show n + 8 - pot s2 + pot s2 + 6 = n + 14 by omega] at f2
  rw [hs1] at a1
  rw [hs2] at a2
  have wr : wrs rows sk st m = decide (V (rws rows sk) s1 < V (rws rows sk) s2 ∨ (V (rws rows sk) s1 = V (rws rows sk) s2 ∧ (alv s1 : Int) < alv s2)) := by unfold wrs; rw [hs1, hs2]
  obtain ⟨v1, hv1⟩ : ∃ v, V (rws rows sk) s1 = v := ⟨_, rfl⟩
  obtain ⟨v2, hv2⟩ : ∃ v, V (rws rows sk) s2 = v := ⟨_, rfl⟩
  obtain ⟨c1, hc1⟩ : ∃ v : Int, (alv s1 : Int) = v := ⟨_, rfl⟩
  obtain ⟨c2, hc2⟩ : ∃ v : Int, (alv s2 : Int) = v := ⟨_, rfl⟩
  rw [hv1, hv2, hc1, hc2] at wr
  rw [hv1] at f1
  rw [hv2] at f2
  obtain ⟨q, hq⟩ : ∃ q, wrs rows sk st m = q := ⟨_, rfl⟩
  rw [hq] at wr ⊢
  have gt : cmpW .Gt (.d (.tuple [.int v2, .int c2])) (.d (.tuple [.int v1, .int c1])) h = .ok (.d (.bool q)) h := by
    rw [cmp_d, wr]
    have al : PySem.W.alike (.tuple [.int v2, .int c2]) (.tuple [.int v1, .int c1]) = true := rfl
    have dp : dpt (.tuple [.int v2, .int c2]) = true := by simp [dpt, PyData.depth, PyData.depthAll]
    simp only [evCmp, al, dp, Bool.and_self, if_true, PySem.W.dataLt_ii, liftO_s]
  have ai : aft rows sk st m (!q) = if q then s2 else s1 := by cases q <;> simp [hs1, hs2]
  have Hp : (h.set p (.dki (toldK (L ++ [(m, !q)]))))[p]? = some (.dki (toldK (L ++ [(m, !q)]))) := by simp [hl]
  have ix := dki_at (i := (m : Int)) (y := .str (wd (!q))) Hp (by
    rw [iget_told]
    have : lk (L ++ [(m, !q)]) m = some (!q) := by
      unfold lk at l ⊢
      rw [Option.map_eq_none_iff] at l
      rw [List.find?_append, l]
      simp
    rw [this]; rfl)
  have se := dki_set (b := b) (i := (m : Int)) (y := .str (wd (!q))) hp (by simp [toldK]; omega)
  rw [iput_told l] at se
  have w0 : wd true = "broken" := rfl
  have w1 : wd false = "works" := rfl
  rw [w0] at a1
  rw [w1] at a2
  have z3 : evS b (callN tab (n + 14)) law_next_answer_s3 (nE rows sk st p as m k two (some (.d (.str ""))) none none none none none none none) h = .ok (.nx (nE rows sk st p as m k two (some (.d (.str ""))) (some (.d (.list [stD s1, stD s2]))) none none none none none none)) h := by
    simp [nE, lcGo, a1, a2, lcEnd]
  have z4 : evS b (callN tab (n + 14)) law_next_answer_s4 (nE rows sk st p as m k two (some (.d (.str ""))) (some (.d (.list [stD s1, stD s2]))) none none none none none none) h = .ok (.nx (nE rows sk st p as m k two (some (.d (.str ""))) (some (.d (.list [stD s1, stD s2]))) none (some (.d (.list [.int v1, .int v2]))) none none none none)) h := by
    simp [nE, lcGo, f1, f2, lcEnd]
  have z5 : evS b (callN tab (n + 14)) law_next_answer_s5 (nE rows sk st p as m k two (some (.d (.str ""))) (some (.d (.list [stD s1, stD s2]))) none (some (.d (.list [.int v1, .int v2]))) none none none none) h = .ok (.nx (nE rows sk st p as m k two (some (.d (.str ""))) (some (.d (.list [stD s1, stD s2]))) none (some (.d (.list [.int v1, .int v2]))) none (some (.d (.list [.int c1, .int c2]))) none none)) h := by
    have al := fun (s : List Int) => alive_ok b (callN tab (n + 14)) (nE rows sk st p as m k two (some (.d (.str ""))) (some (.d (.list [stD s1, stD s2]))) none (some (.d (.list [.int v1, .int v2]))) (some (.d (stD s))) none none none) h (st := s) rfl (by simp [nE])
    have al1 := al s1
    have al2 := al s2
    rw [hc1] at al1
    rw [hc2] at al2
    simp only [nE] at al1 al2
    simp only [nE, s_asg, x_lc, x_ite, x_var, List.getElem?_cons_succ, List.getElem?_cons_zero, b_ok, it_l, live_d, kpt_n, List.map_cons, List.map_nil, lcGo, bind_1, x_none, boolO_n, List.set_cons_succ, List.set_cons_zero, al1, al2, noEx_ok, lcEnd, allD_c, allD_0, Option.map_some]
  have z6 : evS b (callN tab (n + 14)) law_next_answer_s6 (nE rows sk st p as m k two (some (.d (.str ""))) (some (.d (.list [stD s1, stD s2]))) none (some (.d (.list [.int v1, .int v2]))) none (some (.d (.list [.int c1, .int c2]))) none none) h = .ok (.nx (nE rows sk st p as m k two (some (.d (.str ""))) (some (.d (.list [stD s1, stD s2]))) none (some (.d (.list [.int v1, .int v2]))) none (some (.d (.list [.int c1, .int c2]))) none (some (.d (.int (if q then 1 else 0)))))) h := by
    simp only [nE, s_asg, x_blt, x_cons, x_nil, x_cmp, x_tup, x_idx, x_var, x_lit, List.getElem?_cons_succ, List.getElem?_cons_zero, b_ok, idx_l, atZ_0, atZ_1, liftO_s, allD_c, allD_0, Option.map_some, gt, int_b, bind_1, List.set_cons_succ, List.set_cons_zero]
  show finR false h.length (evSs b (callN tab (n + 14)) f_law_next_answer.body (nE rows sk st p as m k two none none none none none none none none) h) = _
  have sp : f_law_next_answer.body = .cons law_next_answer_s0 (.cons law_next_answer_s1 (.cons law_next_answer_s2 (.cons law_next_answer_s3 (.cons law_next_answer_s4 (.cons law_next_answer_s5 (.cons law_next_answer_s6 (.cons law_next_answer_s7 (.cons law_next_answer_s8 .nil)))))))) := rfl
  rw [sp, seq_nx (s := law_next_answer_s0) (env' := nE rows sk st p as m k two (some (.d (.str ""))) none none none none none none none) (h' := h) (by simp [nE, hb]),
    seq_nx (s := law_next_answer_s1) (env' := nE rows sk st p as m k two (some (.d (.str ""))) none none none none none none none) (h' := h) (by simp [nE]),
    seq_nx (s := law_next_answer_s2) (env' := nE rows sk st p as m k two (some (.d (.str ""))) none none none none none none none) (h' := h) (by simp [nE, ci]), seq_nx z3, seq_nx z4, seq_nx z5, seq_nx z6]
  cases q
  · simp only [Bool.not_false, w0] at se ix ai ⊢
    simp [nE, se, ix, ai]
  · simp only [Bool.not_true, w1] at se ix ai ⊢
    simp [nE, se, ix, ai]
theorem cl_left_ok (n b : Nat) (h : Hq) (hR : Rows rows) (hr : rows.length ≤ 24) (as : List (Str × Int)) (k : Int) (two : Bool) :
    callN tab (n + 5) b 35 [.d (histD rows), .d (skD sk), .d (ansD as), .d (.int k), .d (.str (ruleS two))] h = .ok (.d (.int (((fnd rows sk).filter (inL (canL rows as k two))).length : Nat))) h := by
  rw [call_of (fd := f_law_classes_left) _ _ rfl rfl]
  have cb := can_be_ok n b h hR hr as k two
  have cl := blclasses_ok (n + 1) b h hR hr sk
  obtain ⟨left, hleft⟩ : ∃ l, canL rows as k two = l := ⟨_, rfl⟩
  rw [hleft] at cb ⊢
  have itp : ∀ p : List Nat, itemsOf h (.d (.tuple (p.map ni))) = some (p.map (W.d ∘ ni)) := fun p => by rw [it_t, List.map_map]
  have itc : itemsOf h (.d (.list ((fnd rows sk).map fun p => .tuple (p.map ni)))) = some ((fnd rows sk).map (W.d ∘ fun p => .tuple (p.map ni))) := by rw [it_l, List.map_map]
  simp [f_law_classes_left, cb, cl, itc]
  rw [lc_filter (p := inL left) (g := W.d ∘ fun p : List Nat => .tuple (p.map ni))]
  · simp
  · intro p _
    simp [itp]
    rw [lc_filter (emb := W.d ∘ ni) (p := fun c : Nat => decide ((c : Int) ∈ left)) (g := W.d ∘ ni)]
    · unfold inL
      obtain ⟨z, hz⟩ : ∃ z, (p.filter fun c : Nat => decide ((c : Int) ∈ left)).length = z := ⟨_, rfl⟩
      simp [hz]
      by_cases h0 : 0 < z <;> simp [h0]
    · intro c _
      by_cases hc : (c : Int) ∈ left <;> simp [hc]
end
end Ev

namespace Ev
open PySem
section
variable (rows : List (Str × List Int)) (sk : List Nat) (k : Int) (two : Bool)
/-- how many answers come ahead of the one that tells -/
def hB (k : Int) (two : Bool) : Int := if two then 2 * k else k
structure Inv25 (D : Int) (st : List Int) (L : List (Nat × Bool)) (as : List (Str × Int)) : Prop where
  dom : Dom (fnd rows sk).length 0 st
  lo : D - L.length ≤ V (rws rows sk) st
  nd : (L.map (·.1)).Nodup
  tst : ∀ x ∈ L, x.1 ∈ tst rows.length sk
  con : ∀ κ ∈ ones st, ∀ x ∈ L, Ab rows x.1 (hd (fnd rows sk) κ) = x.2
  cin : ∀ x ∈ L, hB k two + 1 ≤ cnt as "works" x.1 + cnt as "broken" x.1 ∧ (x.2 = true → (cnt as "works" x.1 : Int) ≤ k) ∧ (x.2 = false → (cnt as "broken" x.1 : Int) ≤ if two then k else 0)
  out : ∀ m : Nat, m ∉ L.map (·.1) → (cnt as "works" m : Int) + cnt as "broken" m ≤ hB k two ∧ (two = true → (cnt as "broken" m : Int) ≤ cnt as "works" m ∧ (cnt as "works" m : Int) ≤ cnt as "broken" m + 1) ∧ (two = false → (cnt as "broken" m : Int) = 0)
end
theorem sum_cm (as : List (Str × Int)) : ∀ (L : List Nat), L.Nodup → (L.map fun m : Nat => cnt as "works" m + cnt as "broken" m).sum ≤ as.length := by
  have wb : ¬ (("works" : Str) = "broken") := by decide +kernel
  intro L nd
  have key : ∀ as : List (Str × Int), (L.map fun m : Nat => cnt as "works" m + cnt as "broken" m).sum ≤ as.length := by
    intro as
    induction as with
    | nil =>
      have : ∀ l : List Nat, (l.map fun m : Nat => cnt [] "works" m + cnt [] "broken" m).sum = 0 := by
        intro l
        induction l with
        | nil => rfl
        | cons x l ih => simp only [List.map_cons, List.sum_cons, ih]; simp [cnt]
      rw [this]
      exact Nat.zero_le _
    | cons a as ih =>
      have c1 : ∀ (s : Str) (m : Nat), cnt (a :: as) s m = cnt as s m + if a.1 = s ∧ a.2 = (m : Int) then 1 else 0 := fun s m => by
        unfold cnt
        rw [List.filter_cons]
        by_cases h1 : a.1 = s <;> by_cases h2 : a.2 = (m : Int) <;> simp [h1, h2]
      have step : ∀ l : List Nat, l.Nodup → (l.map fun m : Nat => cnt (a :: as) "works" m + cnt (a :: as) "broken" m).sum ≤ (l.map fun m : Nat => cnt as "works" m + cnt as "broken" m).sum + (if a.2.toNat ∈ l then 1 else 0) := by
        intro l
        induction l with
        | nil => intro _; simp
        | cons x l ih2 =>
          intro hn
          have hn := List.nodup_cons.mp hn
          have i2 := ih2 hn.2
          simp only [List.map_cons, List.sum_cons, c1]
          simp only [c1] at i2
          by_cases hx : a.2 = (x : Int)
          · have tx : a.2.toNat = x := by omega
            have nx : ¬ a.2.toNat ∈ l := by rw [tx]; exact hn.1
            have mx : a.2.toNat ∈ x :: l := by rw [tx]; exact List.mem_cons_self
            rw [if_neg nx] at i2
            rw [if_pos mx]
            have : (if a.1 = "works" ∧ a.2 = (x : Int) then 1 else 0) + (if a.1 = "broken" ∧ a.2 = (x : Int) then 1 else 0) ≤ 1 := by
              by_cases w1 : a.1 = "works"
              · simp [w1, wb, hx]
              · simp only [w1, false_and, if_false]
                split <;> omega
            omega
          · have le : (if a.2.toNat ∈ l then 1 else 0) ≤ (if a.2.toNat ∈ x :: l then 1 else 0) := by
              by_cases q : a.2.toNat ∈ l
              · rw [if_pos q, if_pos (List.mem_cons_of_mem _ q)]; exact Nat.le_refl _
              · rw [if_neg q]; exact Nat.zero_le _
            simp only [hx, and_false, if_false]
            omega
      have := step L nd
      have le : (if a.2.toNat ∈ L then 1 else 0) ≤ 1 := by split <;> omega
      rw [List.length_cons]
      omega
  exact key as
section
variable {rows : List (Str × List Int)} {sk : List Nat} {k : Int} {two : Bool} {D : Int} {st : List Int} {L : List (Nat × Bool)} {as : List (Str × Int)}
theorem wb_ne : ¬ (("works" : Str) = "broken") := by decide +kernel
theorem bw_ne : ¬ (("broken" : Str) = "works") := by decide +kernel
/-- the answer that is held back -/
theorem hF_cases (hk : 0 ≤ k) (w b : Int) : (hF w b k two = "" ∧ hB k two ≤ w + b) ∨ (hF w b k two = "works" ∧ w + b < hB k two ∧ (two = true → (w + b) % 2 = 0)) ∨ (hF w b k two = "broken" ∧ w + b < hB k two ∧ two = true ∧ (w + b) % 2 = 1) := by
  unfold hF hB
  cases two
  · simp only [Bool.false_eq_true, if_false]
    by_cases h : w + b < k
    · right; left; exact ⟨if_pos h, h, fun z => by cases z⟩
    · left; exact ⟨if_neg h, by omega⟩
  · simp only [if_true]
    by_cases h : 2 * k ≤ w + b
    · left; exact ⟨if_pos h, h⟩
    · rw [if_neg h]
      have fd : (w + b).fdiv 2 = (w + b) / 2 := Int.fdiv_eq_ediv_of_nonneg _ (by decide)
      rw [fd]
      by_cases e : (w + b) / 2 * 2 = w + b
      · right; left; exact ⟨if_pos e, by omega, fun _ => by omega⟩
      · right; right; exact ⟨if_neg e, by omega, trivial, by omega⟩
theorem inv_held (hk : 0 ≤ k) (i : Inv25 rows sk k two D st L as) {m : Nat} (e : hF (cnt as "works" m) (cnt as "broken" m) k two ≠ "") : Inv25 rows sk k two D st L (as ++ [(hF (cnt as "works" m) (cnt as "broken" m) k two, (m : Int))]) := by
  have nm : m ∉ L.map (·.1) := fun hm => by
    obtain ⟨x, hx, rfl⟩ := List.mem_map.mp hm
    have := (i.cin x hx).1
    rcases hF_cases (two := two) hk (cnt as "works" x.1) (cnt as "broken" x.1) with h | h | h
    · exact e h.1
    · omega
    · omega
  have oth : ∀ (s s' : Str) (m' : Nat), m' ≠ m → cnt (as ++ [(s, (m : Int))]) s' m' = cnt as s' m' := fun s s' m' hne => by
    rw [cnt_add]
    have : ¬ (m : Int) = (m' : Int) := by omega
    simp [this]
  refine ⟨i.dom, i.lo, i.nd, i.tst, i.con, fun x hx => ?_, fun m' hm' => ?_⟩
  · have hne : x.1 ≠ m := fun z => nm (z ▸ List.mem_map_of_mem (f := (·.1)) hx)
    rw [oth _ _ _ hne, oth _ _ _ hne]
    exact i.cin x hx
  · by_cases hmm : m' = m
    · subst hmm
      obtain ⟨o1, o2, o3⟩ := i.out m' hm'
      rw [cnt_add, cnt_add]
      rcases hF_cases (two := two) hk (cnt as "works" m') (cnt as "broken" m') with ⟨h, _⟩ | ⟨h, h1, h2⟩ | ⟨h, h1, h2, h3⟩
      · exact absurd h e
      · rw [h]
        simp only [wb_ne, and_true, if_true, if_false]
        refine ⟨by push_cast; omega, fun z => ?_, fun z => ?_⟩
        · have := o2 z
          have := h2 z
          push_cast
          omega
        · have := o3 z
          push_cast
          omega
      · rw [h]
        simp only [bw_ne, and_true, if_true, if_false]
        refine ⟨by push_cast; omega, fun z => ?_, fun z => ?_⟩
        · have := o2 z
          push_cast
          omega
        · rw [h2] at z; cases z
    · rw [oth _ _ _ hmm, oth _ _ _ hmm]
      exact i.out m' hm'
theorem cnt_wd (as : List (Str × Int)) (br : Bool) (m m' : Nat) : cnt (as ++ [(wd br, (m : Int))]) "works" m' = cnt as "works" m' + (if br = false ∧ m = m' then 1 else 0) ∧ cnt (as ++ [(wd br, (m : Int))]) "broken" m' = cnt as "broken" m' + (if br = true ∧ m = m' then 1 else 0) := by
  rw [cnt_add, cnt_add]
  by_cases e : m = m'
  · subst e
    cases br
    · simp [wd, wb_ne]
    · simp [wd, bw_ne]
  · have e' : ¬ (m : Int) = (m' : Int) := by omega
    simp [e, e']
theorem inv_told (i : Inv25 rows sk k two D st L as) {m : Nat} {br : Bool} (l : lk L m = some br) : Inv25 rows sk k two D st L (as ++ [(wd br, (m : Int))]) := by
  have hx := lk_some l
  have hm : m ∈ L.map (·.1) := List.mem_map.mpr ⟨_, hx, rfl⟩
  refine ⟨i.dom, i.lo, i.nd, i.tst, i.con, fun x hx2 => ?_, fun m' hm' => ?_⟩
  · obtain ⟨c1, c2⟩ := cnt_wd as br m x.1
    rw [c1, c2]
    obtain ⟨o1, o2, o3⟩ := i.cin x hx2
    by_cases e : m = x.1
    · have ex : x = (m, br) := by
        have key : ∀ (l : List (Nat × Bool)), (l.map (·.1)).Nodup → ∀ a ∈ l, ∀ c ∈ l, a.1 = c.1 → a = c := by
          intro l
          induction l with
          | nil => intro _ a ha; cases ha
          | cons y l ih =>
            intro nd a ha c hc e
            rw [List.map_cons, List.nodup_cons] at nd
            rcases List.mem_cons.mp ha with e1 | h1
            · rcases List.mem_cons.mp hc with e2 | h2
              · rw [e1, e2]
              · exact absurd (List.mem_map.mpr ⟨c, h2, by rw [← e, e1]⟩) nd.1
            · rcases List.mem_cons.mp hc with e2 | h2
              · exact absurd (List.mem_map.mpr ⟨a, h1, by rw [e, e2]⟩) nd.1
              · exact ih nd.2 a h1 c h2 e
        exact key L i.nd x hx2 _ hx e.symm
      subst ex
      have o1' : hB k two + 1 ≤ cnt as "works" (m : Int) + cnt as "broken" (m : Int) := o1
      have o2' : br = true → (cnt as "works" (m : Int) : Int) ≤ k := o2
      have o3' : br = false → (cnt as "broken" (m : Int) : Int) ≤ if two then k else 0 := o3
      show hB k two + 1 ≤ _ ∧ (br = true → _) ∧ (br = false → _)
      clear o1 o2 o3
      cases br
      · have o4 := o3' rfl
        refine ⟨?_, fun z => absurd z (by simp), fun _ => ?_⟩
        · simp only [and_self, if_true, Bool.false_eq_true, false_and, if_false]; push_cast; omega
        · simp only [Bool.false_eq_true, false_and, if_false]; exact o4
      · have o4 := o2' rfl
        refine ⟨?_, fun _ => ?_, fun z => absurd z (by simp)⟩
        · simp only [and_self, if_true, Bool.true_eq_false, false_and, if_false]; push_cast; omega
        · simp only [Bool.true_eq_false, false_and, if_false]; exact o4
    · simp only [e, and_false, if_false]
      exact ⟨o1, o2, o3⟩
  · have hne : m ≠ m' := fun z => hm' (z ▸ hm)
    obtain ⟨c1, c2⟩ := cnt_wd as br m m'
    rw [c1, c2]
    simp only [hne, and_false, if_false]
    exact i.out m' hm'
theorem aft_lo {rows : List (Str × List Int)} {sk : List Nat} {st : List Int} (hs : st.length = (fnd rows sk).length) (m : Nat) : aft rows sk st m true = lo1 st (brk (Ab rows) (fnd rows sk) m) ∧ aft rows sk st m false = lo2 st (brk (Ab rows) (fnd rows sk) m) := by
  have mem : ∀ k, k < st.length → decide (k ∈ brk (Ab rows) (fnd rows sk) m) = Ab rows m (hd (fnd rows sk) k) := fun k hk => by
    rw [Bool.eq_iff_iff, decide_eq_true_eq]
    unfold brk hd
    simp only [List.mem_filter, List.mem_range]
    exact ⟨fun z => z.2, fun z => ⟨by omega, z⟩⟩
  unfold aft lo1 lo2
  constructor
  · exact low_congr fun k hk => by rw [mem k hk]; simp
  · exact low_congr fun k hk => by rw [mem k hk]; simp
theorem ones_mem' {st : List Int} {j : Nat} : j ∈ ones st ↔ j < st.length ∧ 0 ≤ st[j]?.getD 0 := by simp [ones]
theorem ones_low' {st : List Int} {q : Nat → Bool} {j : Nat} (h : j ∈ ones (low st q)) : j ∈ ones st ∧ (q j = true → 1 ≤ st[j]?.getD 0) := by
  rw [ones_mem'] at h ⊢
  rw [low_len] at h
  obtain ⟨h1, h2⟩ := h
  unfold low at h2
  rw [List.getElem?_map, List.getElem?_range h1, Option.map_some, Option.getD_some] at h2
  cases e : q j with
  | false => rw [e] at h2; simp at h2; exact ⟨⟨h1, by omega⟩, fun z => by cases z⟩
  | true => rw [e] at h2; simp at h2; exact ⟨⟨h1, by omega⟩, fun _ => by omega⟩
theorem inv_new (i : Inv25 rows sk k two D st L as) {m : Nat} (hm : m ∈ tst rows.length sk) (e : hF (cnt as "works" m) (cnt as "broken" m) k two = "") (hk : 0 ≤ k) (l : lk L m = none) : Inv25 rows sk k two D (aft rows sk st m (!wrs rows sk st m)) (L ++ [(m, !wrs rows sk st m)]) (as ++ [(wd (!wrs rows sk st m), (m : Int))]) := by
  have nm := lk_none.mp l
  obtain ⟨l1, l2⟩ := aft_lo (rows := rows) (sk := sk) i.dom.1 m
  have va := V_any (by decide : (-1 : Int) ≤ 0) i.dom hm
  unfold vOf at va
  rw [← l1, ← l2] at va
  obtain ⟨q, hq⟩ : ∃ q, wrs rows sk st m = q := ⟨_, rfl⟩
  have vq : V (rws rows sk) st - 1 ≤ V (rws rows sk) (aft rows sk st m (!q)) := by
    unfold wrs at hq
    cases q
    · rw [decide_eq_false_iff_not] at hq
      simp only [Bool.not_false]
      omega
    · rw [decide_eq_true_eq] at hq
      simp only [Bool.not_true]
      omega
  rw [hq]
  have hB1 : hB k two ≤ cnt as "works" m + cnt as "broken" m := by
    rcases hF_cases (two := two) hk (cnt as "works" m) (cnt as "broken" m) with h | h | h
    · exact h.2
    · rw [e] at h; exact absurd h.1 (by decide +kernel)
    · rw [e] at h; exact absurd h.1 (by decide +kernel)
  have lo := i.lo
  have c0 := i.out m nm
  refine ⟨dom_low (by decide) i.dom _, by rw [List.length_append, List.length_singleton]; push_cast; omega, ?_, fun x hx => ?_, fun κ hκ x hx => ?_, fun x hx => ?_, fun m' hm' => ?_⟩
  · rw [List.map_append, List.nodup_append]
    refine ⟨i.nd, by simp, fun a ha c hc => ?_⟩
    simp only [List.map_cons, List.map_nil, List.mem_singleton] at hc
    subst hc
    exact fun z => nm (z ▸ ha)
  · rcases List.mem_append.mp hx with hx | hx
    · exact i.tst x hx
    · rw [List.mem_singleton.mp hx]; exact hm
  · unfold aft at hκ
    obtain ⟨o1, o2⟩ := ones_low' hκ
    rcases List.mem_append.mp hx with hx | hx
    · exact i.con κ o1 x hx
    · rw [List.mem_singleton.mp hx]
      simp only
      apply Classical.byContradiction
      intro z
      have := o2 (bne_iff_ne.mpr z)
      have kl : κ < st.length := (ones_mem'.mp o1).1
      have := (i.dom.2 _ (List.getElem_mem kl)).2
      simp only [List.getElem?_eq_getElem kl, Option.getD_some] at *
      omega
  · obtain ⟨c1, c2⟩ := cnt_wd as (!q) m x.1
    rw [c1, c2]
    rcases List.mem_append.mp hx with hx | hx
    · have hne : ¬ m = x.1 := fun z => nm (z ▸ List.mem_map_of_mem (f := (·.1)) hx)
      simp only [hne, and_false, if_false]
      exact i.cin x hx
    · rw [List.mem_singleton.mp hx]
      obtain ⟨k1, k2, k3⟩ := c0
      have g1 : (cnt as "works" (m : Int) : Int) ≤ k := by
        unfold hB at k1 hB1
        cases two
        · have := k3 rfl; simp only [Bool.false_eq_true, if_false] at *; omega
        · have := k2 rfl; simp only [if_true] at *; omega
      have g2 : (cnt as "broken" (m : Int) : Int) ≤ if two then k else 0 := by
        unfold hB at k1 hB1
        cases two
        · have := k3 rfl; simp only [Bool.false_eq_true, if_false] at *; omega
        · have := k2 rfl; simp only [if_true] at *; omega
      show hB k two + 1 ≤ _ ∧ ((!q) = true → _) ∧ ((!q) = false → _)
      cases q
      · refine ⟨?_, fun _ => ?_, fun z => absurd z (by simp)⟩
        · simp only [Bool.not_false, and_self, if_true, Bool.true_eq_false, false_and, if_false]; push_cast; omega
        · simp only [Bool.not_false, Bool.true_eq_false, false_and, if_false]; exact g1
      · refine ⟨?_, fun z => absurd z (by simp), fun _ => ?_⟩
        · simp only [Bool.not_true, and_self, if_true, Bool.false_eq_true, false_and, if_false]; push_cast; omega
        · simp only [Bool.not_true, Bool.false_eq_true, false_and, if_false]; exact g2
  · rw [List.map_append, List.mem_append, not_or] at hm'
    have hne : ¬ m = m' := fun z => hm'.2 (by simp [z])
    obtain ⟨c1, c2⟩ := cnt_wd as (!q) m m'
    rw [c1, c2]
    simp only [hne, and_false, if_false]
    exact i.out m' hm'.1
/-- whoever is still in can be it -/
theorem inv_fit (i : Inv25 rows sk k two D st L as) {κ : Nat} (hκ : κ ∈ ones st) : fitL rows as k two ((hd (fnd rows sk) κ : Nat) : Int) = true := by
  unfold fitL
  rw [List.all_eq_true]
  intro m hm
  have hm := List.mem_range.mp hm
  unfold fit1
  have ad : decide (((hd (fnd rows sk) κ : Nat) : Int) ∈ anc rows m) = Ab rows m (hd (fnd rows sk) κ) := rfl
  rw [ad]
  by_cases hL : m ∈ L.map (·.1)
  · obtain ⟨x, hx, rfl⟩ := List.mem_map.mp hL
    rw [i.con κ hκ x hx]
    obtain ⟨_, o2, o3⟩ := i.cin x hx
    cases hb : x.2 with
    | true =>
      have := o2 hb
      have : ¬ k < (cnt as "works" (x.1 : Int) : Int) := by omega
      simp [this]
    | false =>
      have := o3 hb
      have : ¬ (if two = true then k else 0) < (cnt as "broken" (x.1 : Int) : Int) := by omega
      simp only [this, decide_false, Bool.and_false, Bool.false_and, Bool.not_false, Bool.and_self]
  · obtain ⟨k1, k2, k3⟩ := i.out m hL
    have n1 : ¬ k < (cnt as "works" (m : Int) : Int) := by
      unfold hB at k1
      cases two
      · have := k3 rfl; simp only [Bool.false_eq_true, if_false] at *; omega
      · have := k2 rfl; simp only [if_true] at *; omega
    have n2 : ¬ (if two = true then k else 0) < (cnt as "broken" (m : Int) : Int) := by
      unfold hB at k1
      cases two
      · have := k3 rfl; simp only [Bool.false_eq_true, if_false] at *; omega
      · have := k2 rfl; simp only [if_true] at *; omega
    simp only [n1, n2, decide_false, Bool.and_false, Bool.not_false, Bool.and_self]
/-- as many classes at least can be it as are in -/
theorem inv_many (hr : rows.length ≤ 24) (i : Inv25 rows sk k two D st L as) : (ones st).length ≤ ((fnd rows sk).filter (inL (canL rows as k two))).length := by
  have e : (fnd rows sk) = (List.range (fnd rows sk).length).map fun j => (fnd rows sk)[j]?.getD [] := by
    apply List.ext_getElem?
    intro j
    by_cases hj : j < (fnd rows sk).length
    · rw [List.getElem?_map, List.getElem?_range hj, Option.map_some, List.getElem?_eq_getElem hj]; rfl
    · rw [List.getElem?_eq_none (by omega), List.getElem?_eq_none (by simpa using hj)]
  have e2 : ((fnd rows sk).filter (inL (canL rows as k two))).length = ((List.range (fnd rows sk).length).filter fun j => inL (canL rows as k two) ((fnd rows sk)[j]?.getD [])).length := by
    conv => lhs; rw [e]
    rw [List.filter_map, List.length_map]
    rfl
  rw [e2]
  unfold ones
  rw [i.dom.1, ← List.countP_eq_length_filter, ← List.countP_eq_length_filter]
  refine List.countP_mono_left fun j hj ho => ?_
  have hj := List.mem_range.mp hj
  have jo : j ∈ ones st := by
    unfold ones
    rw [i.dom.1]
    exact List.mem_filter.mpr ⟨List.mem_range.mpr hj, ho⟩
  have ft := inv_fit i jo
  have cl := grp_cl hr (keyOf (Ab rows) (Ev.tst rows.length sk))
  have ne : (fnd rows sk)[j] ≠ [] := cl.ne _ (List.getElem_mem hj)
  have hdm : hd (fnd rows sk) j ∈ (fnd rows sk)[j] := by
    unfold hd
    rw [List.getElem?_eq_getElem hj, Option.getD_some]
    cases q : (fnd rows sk)[j] with
    | nil => exact absurd q ne
    | cons x l => exact List.mem_cons_self
  have lt : hd (fnd rows sk) j < rows.length := cl.lt _ (List.getElem_mem hj) _ hdm
  unfold inL
  rw [List.getElem?_eq_getElem hj, Option.getD_some]
  refine decide_eq_true (List.length_pos_of_mem (List.mem_filter.mpr ⟨hdm, decide_eq_true ?_⟩))
  unfold canL
  exact List.mem_filter.mpr ⟨List.mem_map.mpr ⟨_, List.mem_range.mpr lt, rfl⟩, ft⟩
theorem inv_end (i : Inv25 rows sk k two D st L as) {T : Int} (hT : T = hB k two + 1) (hT1 : 1 ≤ T) (hl : (as.length : Int) = T * D - 1) : 2 ≤ (ones st).length := by
  have s := sum_cm as (L.map (·.1)) i.nd
  rw [List.map_map] at s
  have s : (L.map fun x : Nat × Bool => cnt as "works" x.1 + cnt as "broken" x.1).sum ≤ as.length := s
  have key : ∀ l : List (Nat × Bool), (∀ x ∈ l, x ∈ L) → T * l.length ≤ ((l.map fun x : Nat × Bool => cnt as "works" x.1 + cnt as "broken" x.1).sum : Nat) := by
    intro l
    induction l with
    | nil => intro _; simp
    | cons x l ih =>
      intro h
      have h1 := ih fun y hy => h y (List.mem_cons_of_mem _ hy)
      have h2 := (i.cin x (h x List.mem_cons_self)).1
      simp only [List.map_cons, List.sum_cons, List.length_cons]
      have ex : T * ((l.length + 1 : Nat) : Int) = T * l.length + T := by push_cast; rw [Int.mul_add, Int.mul_one]
      rw [ex]
      push_cast
      omega
  have h1 := key L fun _ h => h
  have h2 : T * L.length < T * D := by omega
  have h3 : (L.length : Int) < D := by
    apply Classical.byContradiction
    intro z
    have := Int.mul_le_mul_of_nonneg_left (show D ≤ L.length by omega) (show 0 ≤ T by omega)
    omega
  apply Classical.byContradiction
  intro z
  have := V_small (rs := rws rows sk) (st := st) (by omega)
  have := i.lo
  omega
end
end Ev

namespace Ev
open PySem
section
variable {rows : List (Str × List Int)} {sk : List Nat} {k : Int} {two : Bool} {D : Int} {st : List Int} {L : List (Nat × Bool)} {as : List (Str × Int)} {bx : Ob}
theorem inv_step (hR : Rows rows) (hr : rows.length ≤ 24) (hN : (fnd rows sk).length ≤ 8) (hk : 0 ≤ k) (hL : L.length < 100000) (i : Inv25 rows sk k two D st L as) {m : Nat} (hm : m ∈ tst rows.length sk) :
    ∃ w st' L', Inv25 rows sk k two D st' L' (as ++ [(w, (m : Int))]) ∧ L'.length ≤ L.length + 1 ∧
      callN tab 39 0 34 [.d (histD rows), .d (skD sk), .d (stD st), .l 1, .d (ansD as), .d (.int m), .d (.int k), .d (.str (ruleS two))] [bx, .dki (toldK L)] = .ok (.d (.list [.str w, stD st'])) [bx, .dki (toldK L')] := by
  by_cases e : hF (cnt as "works" m) (cnt as "broken" m) k two = ""
  · cases l : lk L m with
    | some br => exact ⟨_, st, L, inv_told i l, by omega, next_told 36 0 e rfl l⟩
    | none =>
      refine ⟨_, _, _, inv_new i hm e hk l, by simp, ?_⟩
      exact next_new 24 0 hR hr hN i.dom (tst_lt hm) e rfl hL l
  · exact ⟨_, st, L, inv_held hk i e, by omega, next_held 36 0 e⟩
end
theorem inv_first {rows : List (Str × List Int)} {sk : List Nat} {k : Int} {two : Bool} (hk : 0 ≤ k) : Inv25 rows sk k two (V (rws rows sk) (List.replicate (fnd rows sk).length 0)) (List.replicate (fnd rows sk).length 0) [] [] := by
  refine ⟨⟨by simp, fun x hx => by have := (List.mem_replicate.mp hx).2; omega⟩, by simp, by simp, fun x hx => (by cases hx), fun κ _ x hx => (by cases hx), fun x hx => (by cases hx), fun m _ => ?_⟩
  simp only [cnt, List.filter_nil, List.length_nil]
  refine ⟨?_, fun _ => ⟨by omega, by omega⟩, fun _ => rfl⟩
  unfold hB
  cases two
  · simp; exact hk
  · simp; omega
theorem plain (ns : List Int) (hns : ns.length ≤ 63) : ∃ hz, callN tab 40 0 36 [.d (.list (ns.map .int))] [] = .ok (.d (.bool true)) hz := by
  obtain ⟨ds, e0⟩ := digits_ok 37 0 [] ns
  have b0 : IsBox (.lst [.list (ds.map .int), .int 0]) := ⟨ds, 0, rfl⟩
  obtain ⟨rows, bx1, hrne, hrl, hR, b1, e1⟩ := history_ok 36 0 [] (most := 7) b0 (by decide) (by decide)
  have hr : rows.length ≤ 24 := by omega
  obtain ⟨sk, bx2, ss, b2, e2⟩ := skips_ok 37 0 [] b1 hr
  have fl := fnd_len (rows := rows) (sk := sk)
  have hN : (fnd rows sk).length ≤ 8 := by omega
  obtain ⟨k, bx3, k0, k1, b3, e3⟩ := draw_ok 38 0 [] (m := 4) b2 (by decide)
  obtain ⟨x, hx, bx4, b4, e4⟩ := pick_ok 37 0 [] [.str "two", .str "one"] b3 (by simp)
  obtain ⟨two, rfl⟩ : ∃ two, x = .str (ruleS two) := by
    simp only [List.mem_cons, List.not_mem_nil, or_false] at hx
    rcases hx with rfl | rfl
    · exact ⟨true, rfl⟩
    · exact ⟨false, rfl⟩
  obtain ⟨st0, hst0⟩ : ∃ s, List.replicate (fnd rows sk).length (0 : Int) = s := ⟨_, rfl⟩
  have pt : pot st0 = (fnd rows sk).length := by rw [← hst0, pot_rep _ 0 (by decide)]; simp
  obtain ⟨D, hD⟩ : ∃ D, V (rws rows sk) st0 = D := ⟨_, rfl⟩
  have hdom : Dom (fnd rows sk).length 0 st0 := ⟨by rw [← hst0]; simp, fun x hx => by rw [← hst0] at hx; have := (List.mem_replicate.mp hx).2; omega⟩
  have D0 : 0 ≤ D := hD ▸ (V_rows (by decide) hdom).1
  have D8 : D ≤ 8 := by have := V_le (rws rows sk) _ st0 (Nat.le_refl _); rw [hD, pt] at this; omega
  have lt := law_times_ok 38 0 [bx4] k two
  have fe := fewest_ok (32 - (fnd rows sk).length) 0 [bx4] hR hr sk (k := 0) (by decide) (by decide) (Nat.le_trans (Nat.pow_le_pow_right (by decide) hN) (by decide))
  have fb := fewest_by_ok (31 - (fnd rows sk).length) 0 [bx4] hR hr sk hN k0 (by omega) two
  rw [hst0, pt, hD] at fe fb
  rw [show 32 - (fnd rows sk).length + (fnd rows sk).length + 7 = 39 by omega] at fe
  rw [show 31 - (fnd rows sk).length + (fnd rows sk).length + 8 = 39 by omega] at fb
  have st := start_ok 36 0 [bx4] hR hr sk 0
  rw [hst0] at st
  obtain ⟨T, hT⟩ : ∃ T, timesF k two = T := ⟨_, rfl⟩
  have T1 : 1 ≤ T := by rw [← hT]; unfold timesF; cases two <;> simp <;> omega
  have T7 : T ≤ 7 := by rw [← hT]; unfold timesF; cases two <;> simp <;> omega
  have TB : T = hB k two + 1 := by rw [← hT]; unfold timesF hB; cases two <;> simp
  rw [hT] at lt fb
  have mu : evBin .Mult (.int T) (.int D) = some (.int (T * D)) := mul_l (by omega) (by omega)
  have tl : evE 0 (callN tab 39) (.lc 0 [5] false (.rg1 (.blt .len (.cons (.idx (.var 2) (.lit (.int 1))) .nil))) (.some (.cmp .NotIn (.var 5) (.var 3))) (.var 5)) [some (.d (.list (ns.map .int))), some (.l 0), some (.d (histD rows)), some (.d (skD sk)), none, none, none, none, none, none, none, none, none, none] [bx2] = .ok (.d (.list ((tst rows.length sk).map ni))) [bx2] := by
    simp [hist_1, rg_nat (n := rows.length) (by omega)]
    rw [rangeUp_nat, lc_filter (p := fun m => !decide (m ∈ sk)) (g := W.d ∘ ni)]
    · simp [tst]
    · intro m _
      by_cases hm : m ∈ sk <;> simp [skD, hm]
  obtain ⟨U, hU⟩ : ∃ U, T * D = U := ⟨_, rfl⟩
  rw [hU] at mu fb
  have U56 : U ≤ 56 := by
    rw [← hU]
    have : T * D ≤ 7 * 8 := Int.mul_le_mul T7 D8 D0 (by omega)
    omega
  have U0 : 0 ≤ U := by rw [← hU]; exact Int.mul_nonneg (by omega) D0
  obtain ⟨env', h', e, i⟩ := for_up (f := fun w env h => match bindT [12] false w env with
        | some env => evSs 0 (callN tab 39) law_b1 env h
        | none => .bad) (U - 1).toNat (fun j env h => ∃ st L as mk bx x13 x12, Inv25 rows sk k two D st L as ∧ as.length = j ∧ L.length ≤ j ∧ (0 < j → mk ∈ tst rows.length sk) ∧ IsBox bx ∧ h = [bx, .dki (toldK L)] ∧
          env = [some (.d (.list (ns.map .int))), some (.l 0), some (.d (histD rows)), some (.d (skD sk)), some (.d (.list ((tst rows.length sk).map ni))), some (.d (.int (mk : Nat))), some (.d (.int k)), some (.d (.str (ruleS two))), some (.d (.int U)), some (.d (stD st)), some (.l 1), some (.d (ansD as)), x12, x13])
      (env := [some (.d (.list (ns.map .int))), some (.l 0), some (.d (histD rows)), some (.d (skD sk)), some (.d (.list ((tst rows.length sk).map ni))), some (.d (.int (0 : Nat))), some (.d (.int k)), some (.d (.str (ruleS two))), some (.d (.int U)), some (.d (stD st0)), some (.l 1), some (.d (ansD [])), none, none]) (h := [bx4, .dki (toldK [])])
      ⟨st0, [], [], 0, bx4, none, none, by rw [← hD, ← hst0]; exact inv_first k0, rfl, Nat.le_refl _, fun z => absurd z (by omega), b4, rfl, rfl⟩ fun j env h hj i => by
        obtain ⟨st, L, as, mk, bx, x13, x12, iv, al, Ll, hmk, hb, rfl, rfl⟩ := i
        have D1 : 1 ≤ D := by
          apply Classical.byContradiction
          intro z
          have : D = 0 := by omega
          rw [this, Int.mul_zero] at hU
          omega
        have tne : tst rows.length sk ≠ [] := fun z => by
          have h2 : 2 ≤ (ones st0).length := by
            apply Classical.byContradiction
            intro q
            have := V_small (rs := rws rows sk) (st := st0) (by omega)
            omega
          obtain ⟨r, hr1, _⟩ := rows_sep st0 hdom h2
          have := (rws_lt r hr1).1
          rw [z] at this
          cases this
        -- the make
        have pk : ∃ mk' bx', mk' ∈ tst rows.length sk ∧ IsBox bx' ∧ evS 0 (callN tab 39) law_b1_s0 [some (.d (.list (ns.map .int))), some (.l 0), some (.d (histD rows)), some (.d (skD sk)), some (.d (.list ((tst rows.length sk).map ni))), some (.d (.int (mk : Nat))), some (.d (.int k)), some (.d (.str (ruleS two))), some (.d (.int U)), some (.d (stD st)), some (.l 1), some (.d (ansD as)), some (.d (.int j)), x13] [bx, .dki (toldK L)] =
            .ok (.nx [some (.d (.list (ns.map .int))), some (.l 0), some (.d (histD rows)), some (.d (skD sk)), some (.d (.list ((tst rows.length sk).map ni))), some (.d (.int (mk' : Nat))), some (.d (.int k)), some (.d (.str (ruleS two))), some (.d (.int U)), some (.d (stD st)), some (.l 1), some (.d (ansD as)), some (.d (.int j)), x13]) [bx', .dki (toldK L)] := by
          have pick : ∀ bx, IsBox bx → ∃ mk' bx', mk' ∈ tst rows.length sk ∧ IsBox bx' ∧ callN tab 39 0 23 [.l 0, .d (.list ((tst rows.length sk).map ni))] [bx, .dki (toldK L)] = .ok (.d (.int (mk' : Nat))) [bx', .dki (toldK L)] := fun bx hb => by
            obtain ⟨y, hy, bx', hb', ey⟩ := pick_ok 37 0 [.dki (toldK L)] ((tst rows.length sk).map ni) hb (by simpa using tne)
            obtain ⟨mk', hmk', rfl⟩ := List.mem_map.mp hy
            exact ⟨mk', bx', hmk', hb', ey⟩
          by_cases j0 : j = 0
          · obtain ⟨mk', bx', h1, h2, h3⟩ := pick bx hb
            exact ⟨mk', bx', h1, h2, by simp [law_b2, j0, h3]⟩
          · obtain ⟨v, bx', v0, v1, hb', ev⟩ := draw_ok 38 0 [.dki (toldK L)] (m := 3) hb (by decide)
            have j0' : ¬ (j : Int) = 0 := by omega
            by_cases hv : v = 0
            · obtain ⟨mk', bx2, h1, h2, h3⟩ := pick bx' hb'
              exact ⟨mk', bx2, h1, h2, by simp [law_b2, j0, j0', ev, hv, h3]⟩
            · exact ⟨mk, bx', hmk (by omega), hb', by simp [law_b2, j0, j0', ev, hv]⟩
        obtain ⟨mk', bx', hmk', hb', e5⟩ := pk
        obtain ⟨w, st', L', iv', Ll', e6⟩ := inv_step (bx := bx') hR hr hN k0 (by omega) iv hmk'
        have ad : evBin .Add (ansD as) (.tuple [.tuple [.str w, .int (mk' : Nat)]]) = some (ansD (as ++ [(w, (mk' : Int))])) := by
          unfold ansD
          rw [List.map_append]
          simp only [evBin, List.map_cons, List.map_nil, ansR]
          rw [if_pos (by simp [SZ]; omega)]
        refine ⟨_, _, ?_, st', L', as ++ [(w, (mk' : Int))], mk', bx', some (.d (.str w)), some (.d (.int j)), iv', by simp [al], by omega, fun _ => hmk', hb', rfl, rfl⟩
        simp only [bind_1, List.set_cons_succ, List.set_cons_zero, law_b1]
        rw [seq_nx e5]
        simp [e6, bindT, setAll, ad]
  obtain ⟨st', L', as', mk', bx', x13, x12, iv, al, Ll, -, hb, rfl, rfl⟩ := i
  have cl := cl_left_ok (sk := sk) 34 0 [bx', .dki (toldK L')] hR hr as' k two
  have many := inv_many hr iv
  refine ⟨[], ?_⟩
  rw [call_of (fd := f_law) _ _ rfl rfl]
  have sp : f_law.body = .cons law_s0 (.cons law_s1 (.cons law_s2 (.cons law_s3 (.cons law_s4 (.cons law_s5 (.cons law_s6 (.cons law_s7 (.cons law_s8 (.cons law_s9 (.cons law_s10 (.cons law_s11 (.cons law_s12 (.cons law_s13 .nil))))))))))))) := rfl
  have r1 : rangeUp 0 (U - 1) = rangeUp 0 ((U - 1).toNat : Nat) := by
    unfold rangeUp
    rw [show (((U - 1).toNat : Nat) : Int) - 0 = ((U - 1).toNat : Nat) by omega, show (U - 1 - 0).toNat = (U - 1).toNat by omega]
    simp
  have c12 : evS 0 (callN tab 39) law_s12 [some (.d (.list (ns.map .int))), some (.l 0), some (.d (histD rows)), some (.d (skD sk)), some (.d (.list ((tst rows.length sk).map ni))), some (.d (.int (0 : Nat))), some (.d (.int k)), some (.d (.str (ruleS two))), some (.d (.int U)), some (.d (stD st0)), some (.l 1), some (.d (ansD [])), none, none] [bx4, .dki (toldK [])] = .ok (.nx [some (.d (.list (ns.map .int))), some (.l 0), some (.d (histD rows)), some (.d (skD sk)), some (.d (.list ((tst rows.length sk).map ni))), some (.d (.int (mk' : Nat))), some (.d (.int k)), some (.d (.str (ruleS two))), some (.d (.int U)), some (.d (stD st')), some (.l 1), some (.d (ansD as')), x12, x13]) [bx', .dki (toldK L')] := by
    simp only [s_for, x_rg1, x_bin, x_var, x_lit, List.getElem?_cons_succ, List.getElem?_cons_zero, b_ok, op2_d, sub_i, liftO_s, rg_of (lo := 0) (hi := U - 1) (by omega) (by omega) (by omega) (by omega), if_true, kpt_n, r1]
    exact e
  have c13 : ∃ z, evE 0 (callN tab 39) (.or (.cmp .Eq (.var 8) (.lit (.int 0))) (.one (.cmp .Gt (.call 35 (.cons (.var 2) (.cons (.var 3) (.cons (.var 11) (.cons (.var 6) (.cons (.var 7) .nil)))))) (.lit (.int 1))))) [some (.d (.list (ns.map .int))), some (.l 0), some (.d (histD rows)), some (.d (skD sk)), some (.d (.list ((tst rows.length sk).map ni))), some (.d (.int (mk' : Nat))), some (.d (.int k)), some (.d (.str (ruleS two))), some (.d (.int U)), some (.d (stD st')), some (.l 1), some (.d (ansD as')), x12, x13] [bx', .dki (toldK L')] = .ok (.d (.bool true)) z := by
    by_cases h0 : U = 0
    · exact ⟨_, by simp [h0]; rfl⟩
    · have two2 := inv_end iv TB T1 (by rw [hU, al]; omega)
      obtain ⟨z, hz⟩ : ∃ z, ((fnd rows sk).filter (inL (canL rows as' k two))).length = z := ⟨_, rfl⟩
      rw [hz] at cl many
      have c1 : (1 : Int) < z := by omega
      exact ⟨_, by simp [h0, cl, c1]; rfl⟩
  obtain ⟨z, c13⟩ := c13
  have lawr : evSs 0 (callN tab 39) f_law.body [some (.d (.list (ns.map .int))), none, none, none, none, none, none, none, none, none, none, none, none, none] [] = .ok (.rt (.d (.bool true))) z := by
    rw [sp, seq_nx (s := law_s0) (env' := [some (.d (.list (ns.map .int))), some (.l 0), none, none, none, none, none, none, none, none, none, none, none, none]) (h' := [.lst [.list (ds.map .int), .int 0]]) (by simp [e0]),
      seq_nx (s := law_s1) (env' := [some (.d (.list (ns.map .int))), some (.l 0), some (.d (histD rows)), none, none, none, none, none, none, none, none, none, none, none]) (h' := [bx1]) (by simp [e1]),
      seq_nx (s := law_s2) (env' := [some (.d (.list (ns.map .int))), some (.l 0), some (.d (histD rows)), some (.d (skD sk)), none, none, none, none, none, none, none, none, none, none]) (h' := [bx2]) (by simp [e2]),
      seq_nx (s := law_s3) (env' := [some (.d (.list (ns.map .int))), some (.l 0), some (.d (histD rows)), some (.d (skD sk)), some (.d (.list ((tst rows.length sk).map ni))), none, none, none, none, none, none, none, none, none]) (h' := [bx2]) (by rw [s_asg, tl]; simp),
      seq_nx (s := law_s4) (env' := [some (.d (.list (ns.map .int))), some (.l 0), some (.d (histD rows)), some (.d (skD sk)), some (.d (.list ((tst rows.length sk).map ni))), none, some (.d (.int k)), none, none, none, none, none, none, none]) (h' := [bx3]) (by simp [e3]),
      seq_nx (s := law_s5) (env' := [some (.d (.list (ns.map .int))), some (.l 0), some (.d (histD rows)), some (.d (skD sk)), some (.d (.list ((tst rows.length sk).map ni))), none, some (.d (.int k)), some (.d (.str (ruleS two))), none, none, none, none, none, none]) (h' := [bx4]) (by simp [e4]),
      seq_nx (s := law_s6) (env' := [some (.d (.list (ns.map .int))), some (.l 0), some (.d (histD rows)), some (.d (skD sk)), some (.d (.list ((tst rows.length sk).map ni))), none, some (.d (.int k)), some (.d (.str (ruleS two))), some (.d (.int U)), none, none, none, none, none]) (h' := [bx4]) (by simp [lt, fe, mu]),
      seq_nx (s := law_s7) (env' := [some (.d (.list (ns.map .int))), some (.l 0), some (.d (histD rows)), some (.d (skD sk)), some (.d (.list ((tst rows.length sk).map ni))), none, some (.d (.int k)), some (.d (.str (ruleS two))), some (.d (.int U)), none, none, none, none, none]) (h' := [bx4]) (by simp [fb]),
      seq_nx (s := law_s8) (env' := [some (.d (.list (ns.map .int))), some (.l 0), some (.d (histD rows)), some (.d (skD sk)), some (.d (.list ((tst rows.length sk).map ni))), none, some (.d (.int k)), some (.d (.str (ruleS two))), some (.d (.int U)), some (.d (stD st0)), none, none, none, none]) (h' := [bx4]) (by simp [st]),
      seq_nx (s := law_s9) (env' := [some (.d (.list (ns.map .int))), some (.l 0), some (.d (histD rows)), some (.d (skD sk)), some (.d (.list ((tst rows.length sk).map ni))), none, some (.d (.int k)), some (.d (.str (ruleS two))), some (.d (.int U)), some (.d (stD st0)), some (.l 1), none, none, none]) (h' := [bx4, .dki (toldK [])]) (by simp [toldK]),
      seq_nx (s := law_s10) (env' := [some (.d (.list (ns.map .int))), some (.l 0), some (.d (histD rows)), some (.d (skD sk)), some (.d (.list ((tst rows.length sk).map ni))), none, some (.d (.int k)), some (.d (.str (ruleS two))), some (.d (.int U)), some (.d (stD st0)), some (.l 1), some (.d (ansD [])), none, none]) (h' := [bx4, .dki (toldK [])]) (by simp [ansD]),
      seq_nx (s := law_s11) (env' := [some (.d (.list (ns.map .int))), some (.l 0), some (.d (histD rows)), some (.d (skD sk)), some (.d (.list ((tst rows.length sk).map ni))), some (.d (.int (0 : Nat))), some (.d (.int k)), some (.d (.str (ruleS two))), some (.d (.int U)), some (.d (stD st0)), some (.l 1), some (.d (ansD [])), none, none]) (h' := [bx4, .dki (toldK [])]) (by simp),
      seq_nx c12, s_cons, s_ret, c13]
    simp
  have lawr2 : evSs (if f_law.tr = true then ([] : Hq).length else 0) (callN tab 39) f_law.body ([W.d (.list (ns.map .int))].map some ++ List.replicate (f_law.ns - f_law.np) none) [] = .ok (.rt (.d (.bool true))) z := lawr
  rw [lawr2]
  rfl
end Ev

namespace Ev
open PySem PySem.Spec PyProof.Rows L2
def top (i : Nat) : Stmt := PySem.Challenge.pw_firstbreak_k25_no_fewer_do.main.body.getD i (.Pass ⟨0, 0, 0, 0⟩)
def d_ancestors : DF := ⟨"ancestors", top 4, ["history", "m"], n_ancestors, f_ancestors⟩
theorem bd_ancestors : d_ancestors.Bnd := fun _ _ _ _ _ _ us hl => match us, hl with | [_, _], _ => rfl
def d_testable : DF := ⟨"testable", top 6, ["history", "skipped"], n_testable, f_testable⟩
theorem bd_testable : d_testable.Bnd := fun _ _ _ _ _ _ us hl => match us, hl with | [_, _], _ => rfl
def d_classes : DF := ⟨"classes", top 7, ["history", "skipped"], n_classes, f_classes⟩
theorem bd_classes : d_classes.Bnd := fun _ _ _ _ _ _ us hl => match us, hl with | [_, _], _ => rfl
def d_broken_by : DF := ⟨"broken_by", top 8, ["history", "found", "m"], n_broken_by, f_broken_by⟩
theorem bd_broken_by : d_broken_by.Bnd := fun _ _ _ _ _ _ us hl => match us, hl with | [_, _, _], _ => rfl
def d_tests : DF := ⟨"tests", top 9, ["history", "skipped"], n_tests, f_tests⟩
theorem bd_tests : d_tests.Bnd := fun _ _ _ _ _ _ us hl => match us, hl with | [_, _], _ => rfl
def d_start : DF := ⟨"start", top 11, ["history", "skipped", "k"], n_start, f_start⟩
theorem bd_start : d_start.Bnd := fun _ _ _ _ _ _ us hl => match us, hl with | [_, _, _], _ => rfl
def d_lowered : DF := ⟨"lowered", top 12, ["state", "row"], n_lowered, f_lowered⟩
theorem bd_lowered : d_lowered.Bnd := fun _ _ _ _ _ _ us hl => match us, hl with | [_, _], _ => rfl
def d_against_row : DF := ⟨"against_row", top 13, ["many", "row", "word"], n_against_row, f_against_row⟩
theorem bd_against_row : d_against_row.Bnd := fun _ _ _ _ _ _ us hl => match us, hl with | [_, _, _], _ => rfl
def d_after : DF := ⟨"after", top 14, ["history", "skipped", "state", "answer"], n_after, f_after⟩
theorem bd_after : d_after.Bnd := fun _ _ _ _ _ _ us hl => match us, hl with | [_, _, _, _], _ => rfl
def d_check_size : DF := ⟨"check_size", top 17, ["state"], n_check_size, f_check_size⟩
theorem bd_check_size : d_check_size.Bnd := fun _ _ _ _ _ _ us hl => match us, hl with | [_], _ => rfl
def d_rows_of : DF := ⟨"rows_of", top 18, ["history", "skipped"], n_rows_of, f_rows_of⟩
theorem bd_rows_of : d_rows_of.Bnd := fun _ _ _ _ _ _ us hl => match us, hl with | [_, _], _ => rfl
def d_ones_in : DF := ⟨"ones_in", top 19, ["state"], n_ones_in, f_ones_in⟩
theorem bd_ones_in : d_ones_in.Bnd := fun _ _ _ _ _ _ us hl => match us, hl with | [_], _ => rfl
def d_is_useful : DF := ⟨"is_useful", top 20, ["state", "row"], n_is_useful, f_is_useful⟩
theorem bd_is_useful : d_is_useful.Bnd := fun _ _ _ _ _ _ us hl => match us, hl with | [_, _], _ => rfl
def d_both_after : DF := ⟨"both_after", top 21, ["state", "row"], n_both_after, f_both_after⟩
theorem bd_both_after : d_both_after.Bnd := fun _ _ _ _ _ _ us hl => match us, hl with | [_, _], _ => rfl
def d_value : DF := ⟨"value", top 22, ["rows", "state", "known"], n_value, f_value⟩
theorem bd_value : d_value.Bnd := fun _ _ _ _ _ _ us hl => match us, hl with | [_, _, _], _ => rfl
def d_fewest_from : DF := ⟨"fewest_from", top 23, ["history", "skipped", "state"], n_fewest_from, f_fewest_from⟩
theorem bd_fewest_from : d_fewest_from.Bnd := fun _ _ _ _ _ _ us hl => match us, hl with | [_, _, _], _ => rfl
def d_fewest : DF := ⟨"fewest", top 24, ["history", "skipped", "k"], n_fewest, f_fewest⟩
theorem bd_fewest : d_fewest.Bnd := fun _ _ _ _ _ _ us hl => match us, hl with | [_, _, _], _ => rfl
def d_counts_of : DF := ⟨"counts_of", top 26, ["answers", "make"], n_counts_of, f_counts_of⟩
theorem bd_counts_of : d_counts_of.Bnd := fun _ _ _ _ _ _ us hl => match us, hl with | [_, _], _ => rfl
def d_fewest_by_make : DF := ⟨"fewest_by_make", top 27, ["history", "skipped", "k", "rule"], n_fewest_by_make, f_fewest_by_make⟩
theorem bd_fewest_by_make : d_fewest_by_make.Bnd := fun _ _ _ _ _ _ us hl => match us, hl with | [_, _, _, _], _ => rfl
def d_held_back : DF := ⟨"held_back", top 28, ["answers", "make", "k", "rule"], n_held_back, f_held_back⟩
theorem bd_held_back : d_held_back.Bnd := fun _ _ _ _ _ _ us hl => match us, hl with | [_, _, _, _], _ => rfl
def d_law_cell : DF := ⟨"_law_cell", top 30, ["_law_script", "_law_k"], n_law_cell, f_law_cell⟩
theorem bd_law_cell : d_law_cell.Bnd := fun _ _ _ _ _ _ us hl => match us, hl with | [_, _], _ => rfl
def d_law_digits : DF := ⟨"_law_digits", top 31, ["_law_script", "_law_first", "_law_last"], n_law_digits, f_law_digits⟩
theorem bd_law_digits : d_law_digits.Bnd := fun _ _ _ _ _ _ us hl => match us, hl with | [_, _, _], _ => rfl
def d_law_draw : DF := ⟨"_law_draw", top 32, ["_law_box", "_law_many"], n_law_draw, f_law_draw⟩
theorem bd_law_draw : d_law_draw.Bnd := fun _ _ _ _ _ _ us hl => match us, hl with | [_, _], _ => rfl
def d_law_pick : DF := ⟨"_law_pick", top 33, ["_law_box", "_law_things"], n_law_pick, f_law_pick⟩
theorem bd_law_pick : d_law_pick.Bnd := fun _ _ _ _ _ _ us hl => match us, hl with | [_, _], _ => rfl
def d_law_parents : DF := ⟨"_law_parents", top 34, ["_law_box", "_law_k", "_law_ends"], n_law_parents, f_law_parents⟩
theorem bd_law_parents : d_law_parents.Bnd := fun _ _ _ _ _ _ us hl => match us, hl with | [_, _, _], _ => rfl
def d_law_history : DF := ⟨"_law_history", top 35, ["_law_box", "_law_most"], n_law_history, f_law_history⟩
theorem bd_law_history : d_law_history.Bnd := fun _ _ _ _ _ _ us hl => match us, hl with | [_, _], _ => rfl
def d_law_above : DF := ⟨"_law_above", top 36, ["_law_history_here", "_law_make"], n_law_above, f_law_above⟩
theorem bd_law_above : d_law_above.Bnd := fun _ _ _ _ _ _ us hl => match us, hl with | [_, _], _ => rfl
def d_law_breaks : DF := ⟨"_law_breaks", top 37, ["_law_history_here", "_law_candidate", "_law_make"], n_law_breaks, f_law_breaks⟩
theorem bd_law_breaks : d_law_breaks.Bnd := fun _ _ _ _ _ _ us hl => match us, hl with | [_, _, _], _ => rfl
def d_law_skips : DF := ⟨"_law_skips", top 38, ["_law_box", "_law_history_here"], n_law_skips, f_law_skips⟩
theorem bd_law_skips : d_law_skips.Bnd := fun _ _ _ _ _ _ us hl => match us, hl with | [_, _], _ => rfl
def d_law_count : DF := ⟨"_law_count", top 39, ["_law_answers", "_law_kind", "_law_make"], n_law_count, f_law_count⟩
theorem bd_law_count : d_law_count.Bnd := fun _ _ _ _ _ _ us hl => match us, hl with | [_, _, _], _ => rfl
def d_law_fits : DF := ⟨"_law_fits", top 40, ["_law_history_here", "_law_answers", "_law_k", "_law_rule", "_law_candidate"], n_law_fits, f_law_fits⟩
theorem bd_law_fits : d_law_fits.Bnd := fun _ _ _ _ _ _ us hl => match us, hl with | [_, _, _, _, _], _ => rfl
def d_law_can_be : DF := ⟨"_law_can_be", top 41, ["_law_history_here", "_law_answers", "_law_k", "_law_rule"], n_law_can_be, f_law_can_be⟩
theorem bd_law_can_be : d_law_can_be.Bnd := fun _ _ _ _ _ _ us hl => match us, hl with | [_, _, _, _], _ => rfl
def d_law_classes : DF := ⟨"_law_classes", top 42, ["_law_history_here", "_law_skipped"], n_law_classes, f_law_classes⟩
theorem bd_law_classes : d_law_classes.Bnd := fun _ _ _ _ _ _ us hl => match us, hl with | [_, _], _ => rfl
def d_law_times : DF := ⟨"_law_times", top 43, ["_law_k", "_law_rule"], n_law_times, f_law_times⟩
theorem bd_law_times : d_law_times.Bnd := fun _ _ _ _ _ _ us hl => match us, hl with | [_, _], _ => rfl
def d_law_next_answer : DF := ⟨"_law_next_answer", top 44, ["_law_history_here", "_law_skipped", "_law_state", "_law_told", "_law_answers", "_law_make", "_law_k", "_law_rule"], n_law_next_answer, f_law_next_answer⟩
theorem bd_law_next_answer : d_law_next_answer.Bnd := fun _ _ _ _ _ _ us hl => match us, hl with | [_, _, _, _, _, _, _, _], _ => rfl
def d_law_classes_left : DF := ⟨"_law_classes_left", top 45, ["_law_history_here", "_law_skipped", "_law_answers", "_law_k", "_law_rule"], n_law_classes_left, f_law_classes_left⟩
theorem bd_law_classes_left : d_law_classes_left.Bnd := fun _ _ _ _ _ _ us hl => match us, hl with | [_, _, _, _, _], _ => rfl
def d_law : DF := ⟨"law", top 46, ["_law_script"], n_law, f_law⟩
theorem bd_law : d_law.Bnd := fun _ _ _ _ _ _ us hl => match us, hl with | [_], _ => rfl
def dfs : List DF := [d_ancestors, d_testable, d_classes, d_broken_by, d_tests, d_start, d_lowered, d_against_row, d_after, d_check_size, d_rows_of, d_ones_in, d_is_useful, d_both_after, d_value, d_fewest_from, d_fewest, d_counts_of, d_fewest_by_make, d_held_back, d_law_cell, d_law_digits, d_law_draw, d_law_pick, d_law_parents, d_law_history, d_law_above, d_law_breaks, d_law_skips, d_law_count, d_law_fits, d_law_can_be, d_law_classes, d_law_times, d_law_next_answer, d_law_classes_left, d_law]
theorem bd : ∀ d ∈ dfs, d.Bnd := List.forall_mem_cons.mpr ⟨bd_ancestors, List.forall_mem_cons.mpr ⟨bd_testable, List.forall_mem_cons.mpr ⟨bd_classes, List.forall_mem_cons.mpr ⟨bd_broken_by, List.forall_mem_cons.mpr ⟨bd_tests, List.forall_mem_cons.mpr ⟨bd_start, List.forall_mem_cons.mpr ⟨bd_lowered, List.forall_mem_cons.mpr ⟨bd_against_row, List.forall_mem_cons.mpr ⟨bd_after, List.forall_mem_cons.mpr ⟨bd_check_size, List.forall_mem_cons.mpr ⟨bd_rows_of, List.forall_mem_cons.mpr ⟨bd_ones_in, List.forall_mem_cons.mpr ⟨bd_is_useful, List.forall_mem_cons.mpr ⟨bd_both_after, List.forall_mem_cons.mpr ⟨bd_value, List.forall_mem_cons.mpr ⟨bd_fewest_from, List.forall_mem_cons.mpr ⟨bd_fewest, List.forall_mem_cons.mpr ⟨bd_counts_of, List.forall_mem_cons.mpr ⟨bd_fewest_by_make, List.forall_mem_cons.mpr ⟨bd_held_back, List.forall_mem_cons.mpr ⟨bd_law_cell, List.forall_mem_cons.mpr ⟨bd_law_digits, List.forall_mem_cons.mpr ⟨bd_law_draw, List.forall_mem_cons.mpr ⟨bd_law_pick, List.forall_mem_cons.mpr ⟨bd_law_parents, List.forall_mem_cons.mpr ⟨bd_law_history, List.forall_mem_cons.mpr ⟨bd_law_above, List.forall_mem_cons.mpr ⟨bd_law_breaks, List.forall_mem_cons.mpr ⟨bd_law_skips, List.forall_mem_cons.mpr ⟨bd_law_count, List.forall_mem_cons.mpr ⟨bd_law_fits, List.forall_mem_cons.mpr ⟨bd_law_can_be, List.forall_mem_cons.mpr ⟨bd_law_classes, List.forall_mem_cons.mpr ⟨bd_law_times, List.forall_mem_cons.mpr ⟨bd_law_next_answer, List.forall_mem_cons.mpr ⟨bd_law_classes_left, List.forall_mem_cons.mpr ⟨bd_law, fun _ h => nomatch h⟩⟩⟩⟩⟩⟩⟩⟩⟩⟩⟩⟩⟩⟩⟩⟩⟩⟩⟩⟩⟩⟩⟩⟩⟩⟩⟩⟩⟩⟩⟩⟩⟩⟩⟩⟩⟩
def gis : List (Str × Int) := [("MOST_STATES", 20000)]
theorem ck : dfs.all (DF.chk (dfs.map (·.nm)) gis) = true := by decide +kernel
abbrev Rw : PySem.W.OpenRow := PySem.W.OpenLaw.row PySem.Challenge.rw_firstbreak_k25_no_fewer_do
abbrev hk : PySem.W.Hook := He.hookD 4 (fas dfs gis) (fns dfs)
def ob (s : PySem.W.SharedT) : He.AlD := He.obsDG 4 (fas dfs gis) (fns dfs) (HandSHeadRun.getT s)
theorem ob_eq (s : PySem.W.SharedT) : ob s = hk.obs s.abs := He.obsDG_eq (HandSHeadRun.getT_eq s)
def loo : List PySem.Str := [("__name__" : PySem.Str), ("BreakError" : PySem.Str), ("TooGreat" : PySem.Str), ("ancestors" : PySem.Str), ("testable" : PySem.Str), ("classes" : PySem.Str), ("broken_by" : PySem.Str), ("tests" : PySem.Str), ("start" : PySem.Str), ("lowered" : PySem.Str), ("against_row" : PySem.Str), ("after" : PySem.Str), ("MOST_STATES" : PySem.Str), ("check_size" : PySem.Str), ("rows_of" : PySem.Str), ("ones_in" : PySem.Str), ("is_useful" : PySem.Str), ("both_after" : PySem.Str), ("value" : PySem.Str), ("fewest_from" : PySem.Str), ("fewest" : PySem.Str), ("counts_of" : PySem.Str), ("fewest_by_make" : PySem.Str), ("held_back" : PySem.Str), ("_law_cell" : PySem.Str), ("_law_digits" : PySem.Str), ("_law_draw" : PySem.Str), ("_law_pick" : PySem.Str), ("_law_parents" : PySem.Str), ("_law_history" : PySem.Str), ("_law_above" : PySem.Str), ("_law_breaks" : PySem.Str), ("_law_skips" : PySem.Str), ("_law_count" : PySem.Str), ("_law_fits" : PySem.Str), ("_law_can_be" : PySem.Str), ("_law_classes" : PySem.Str), ("_law_times" : PySem.Str), ("_law_next_answer" : PySem.Str), ("_law_classes_left" : PySem.Str)]
theorem run (w : World) : HandSHeadRun.RunEq Rw (PySem.W.view Rw.prog [46]) hk ob 3000 [("__name__" : PySem.Str), ("BreakError" : PySem.Str), ("TooGreat" : PySem.Str), ("ancestors" : PySem.Str), ("testable" : PySem.Str), ("classes" : PySem.Str), ("broken_by" : PySem.Str), ("tests" : PySem.Str), ("start" : PySem.Str), ("lowered" : PySem.Str), ("against_row" : PySem.Str), ("after" : PySem.Str), ("MOST_STATES" : PySem.Str), ("check_size" : PySem.Str), ("rows_of" : PySem.Str), ("ones_in" : PySem.Str), ("is_useful" : PySem.Str), ("both_after" : PySem.Str), ("value" : PySem.Str), ("fewest_from" : PySem.Str), ("fewest" : PySem.Str), ("counts_of" : PySem.Str), ("fewest_by_make" : PySem.Str), ("held_back" : PySem.Str), ("_law_cell" : PySem.Str), ("_law_digits" : PySem.Str), ("_law_draw" : PySem.Str), ("_law_pick" : PySem.Str), ("_law_parents" : PySem.Str), ("_law_history" : PySem.Str), ("_law_above" : PySem.Str), ("_law_breaks" : PySem.Str), ("_law_skips" : PySem.Str), ("_law_count" : PySem.Str), ("_law_fits" : PySem.Str), ("_law_can_be" : PySem.Str), ("_law_classes" : PySem.Str), ("_law_times" : PySem.Str), ("_law_next_answer" : PySem.Str), ("_law_classes_left" : PySem.Str)] w := by
  intro os
  kernel_rfl
end Ev
open PySem PySem.W PySem.Calls PyProof.Rows
theorem PySem.Challenge.cw_firstbreak_k25_no_fewer_do_holds : PySem.Challenge.rw_firstbreak_k25_no_fewer_do.Holds := by
  w_on; o_law
  refine HandSHeadRun.head_any (r := OpenLaw.row PySem.Challenge.rw_firstbreak_k25_no_fewer_do) (q := view (OpenLaw.row PySem.Challenge.rw_firstbreak_k25_no_fewer_do).prog [46]) (H := Ev.hk) (ob := Ev.ob) (M := 3000) (loose := [("__name__" : PySem.Str), ("BreakError" : PySem.Str), ("TooGreat" : PySem.Str), ("ancestors" : PySem.Str), ("testable" : PySem.Str), ("classes" : PySem.Str), ("broken_by" : PySem.Str), ("tests" : PySem.Str), ("start" : PySem.Str), ("lowered" : PySem.Str), ("against_row" : PySem.Str), ("after" : PySem.Str), ("MOST_STATES" : PySem.Str), ("check_size" : PySem.Str), ("rows_of" : PySem.Str), ("ones_in" : PySem.Str), ("is_useful" : PySem.Str), ("both_after" : PySem.Str), ("value" : PySem.Str), ("fewest_from" : PySem.Str), ("fewest" : PySem.Str), ("counts_of" : PySem.Str), ("fewest_by_make" : PySem.Str), ("held_back" : PySem.Str), ("_law_cell" : PySem.Str), ("_law_digits" : PySem.Str), ("_law_draw" : PySem.Str), ("_law_pick" : PySem.Str), ("_law_parents" : PySem.Str), ("_law_history" : PySem.Str), ("_law_above" : PySem.Str), ("_law_breaks" : PySem.Str), ("_law_skips" : PySem.Str), ("_law_count" : PySem.Str), ("_law_fits" : PySem.Str), ("_law_can_be" : PySem.Str), ("_law_classes" : PySem.Str), ("_law_times" : PySem.Str), ("_law_next_answer" : PySem.Str), ("_law_classes_left" : PySem.Str)]) (d := HandSHeadRun.topDef (OpenLaw.row PySem.Challenge.rw_firstbreak_k25_no_fewer_do).prog 46) (kwd := []) Ev.ob_eq
    (by kernel_rfl) (fun s => by kernel_rfl) Ev.run (by kernel_rfl) (by kernel_rfl) (by kernel_rfl) (by rfl) (by first | assumption | decide +kernel) (by decide +kernel) ⟨rfl, rfl, rfl, rfl, rfl, by decide +kernel⟩ ?hw ?hc
  case hw => w_witness2
  case hc =>
    refine Ev.walkG (l := PySem.Challenge.rw_firstbreak_k25_no_fewer_do) (n := 63) (k := 40) (x := "_law_script") (CX := Ev.CXW (PySem.Challenge.rw_firstbreak_k25_no_fewer_do).prog) rfl (by decide) (by kernel_rfl) ⟨rfl, by decide, by decide⟩ ?F (fun _ _ _ _ z => Ev.CXW.none z)
    intro w mg fa h Y G hmg0
    obtain ⟨K, KX, c⟩ := Y
    have hmg : mg ("law" : PySem.Str) = some (.ref fa) := by
      have e : (HandSHeadRun.topDef (OpenLaw.row PySem.Challenge.rw_firstbreak_k25_no_fewer_do).prog 46).name = ("law" : PySem.Str) := by kernel_rfl
      rw [← e]
      exact hmg0
    exact Ev.law_facts (n := 39) (i := 36) (d := Ev.d_law) KX G c Ev.ck Ev.bd rfl rfl hmg Ev.plain
