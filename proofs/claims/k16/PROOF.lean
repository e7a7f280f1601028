import PyProof.Rows.All
import Wide.All
import OpenK.AllK
import Wide.FinOn
import HandS.ForMost
import HandS.ForExc
import HandS.Deep
import KE.DataFind
import KE.DataMinMax
import KE.SortData
import KE.KeyNested
import HandS.TupMul
import HandS.TupAny
import HandS.Flow
import HandS.Iter
import HandS.ExcOwn
import HandS.Defaults
import HandS.Ends
import HandS.ExcIs
import HandS.ExcField
import HandS.HeadHook1
import KE.KExcIs
import HandS.Style
import KE.SortCalls
import HandS.SetFor
import HandS.Strs
import HandS.SortInts
import KE.DataCmp
import PyProof.ReprRoads
import HandS.Conv
import KE.DataIsa
import HandS.Dict
import HandS.HeadEnd
import KE.KStateDown
import HandS.More
import HandS.Words
import HandS.WordsExc
import HandS.Head0
import HandS.Head1
import HandS.Head2
import HandS.HeadHook2
import KE.DataEq
import PyProof.FitsInt
import HandS.FStrTup
import Lean
import PySem.Challenge.RW_firstbreak_k16_even_testing
set_option Elab.async false
set_option linter.all false
set_option maxRecDepth 100000
set_option maxHeartbeats 0
/-! EvA: a small language of terms (E, S), what it computes (evE, evS, callN) over plain data. -/
namespace Ev
open PySem

/-- a value: data, or the place of an object -/
inductive W where
  | d (x : PyData)
  | l (n : Nat)
  | x (c : Nat) (ds : List PyData)

/-- an object that may change -/
inductive Ob where
  | lst (xs : List PyData)
  | lsw (ws : List W)
  | dct (kvs : List (PyData × PyData))
  | dki (kvs : List (Int × PyData))
  | dead

abbrev Hq := List Ob
inductive R (α : Type) where
  | ok (a : α) (h : Hq)
  | ex (c : Nat) (ds : List PyData) (h : Hq)
  | bad

def R.bind {α β : Type} (r : R α) (f : α → Hq → R β) : R β := match r with
  | .ok a h => f a h
  | .ex c ds h => .ex c ds h
  | .bad => .bad

theorem bind_ok {α β : Type} (a : α) (h : Hq) (f : α → Hq → R β) : (R.ok a h).bind f = f a h := rfl
theorem bind_ex {α β : Type} (c : Nat) (ds : List PyData) (h : Hq) (f : α → Hq → R β) : (R.ex c ds h : R α).bind f = .ex c ds h := rfl
theorem bind_bad {α β : Type} (f : α → Hq → R β) : (R.bad : R α).bind f = .bad := rfl

/-- built-in functions -/
inductive Bt where
  | len | tuple | int | sum | max | min | all | any | sorted | list | repr | str | max2 | min2
  deriving DecidableEq
/-- methods of built-in types -/
inductive Mt where
  | count | index | get | pop
  deriving DecidableEq

/-- the classes that isinstance is asked of -/
inductive Ity where
  | int | bool | str | tuple
  deriving DecidableEq
def isaD : Ity → PyData → Bool
  | .int, .int _ => true
  | .int, .bool _ => true
  | .bool, .bool _ => true
  | .str, .str _ => true
  | .tuple, .tuple _ => true
  | _, _ => false

mutual
inductive E where
  | bad
  | dnew
  | dnewI
  | glb (x : Int)
  | glbS (x : Str)
  | exis (i : Nat) (cs : List Nat)
  | exfld (i : Nat) (js : List (Nat × Nat))
  | trg (t : Bool) (a : E)
  | isa (c : Ity) (a : E)
  | dlg (kvs : List (Str × Int)) (k d : E)
  | var (i : Nat)
  | lit (c : PyData)
  | tup (es : Es)
  | lst (es : Es)
  | lstM (es : Es)
  | lsw (es : Es)
  | bin (o : Operator) (a b : E)
  | binM (o : Operator) (a b : E)
  | neg (a : E)
  | nt (a : E)
  | cmp (o : CmpOp) (a b : E)
  | isN (a : E)
  | isB (n k : Bool) (a : E)
  | notN (a : E)
  | cmp2 (o p : CmpOp) (a b c : E)
  | one (a : E)
  | and (a b : E)
  | or (a b : E)
  | ife (c a b : E)
  | idx (a i : E)
  | slc (a : E) (lo hi : Oe)
  | rev (a : E)
  | blt (f : Bt) (es : Es)
  | mth (f : Mt) (o : E) (es : Es)
  | call (f : Nat) (es : Es)
  | call0 (f : Nat)
  | sset (a : E)
  | lc (k : Nat) (t : List Nat) (u : Bool) (it : It) (c : Oe) (e : E)
inductive Es where
  | nil
  | cons (e : E) (es : Es)
inductive Oe where
  | none
  | some (e : E)
inductive It where
  | e (a : E)
  | rg1 (a : E)
  | rg2 (a b : E)
  | rgd (a b : E)
end

abbrev Vars := List (Option W)

def SZ : Nat := 16777216

def allD : List W → Option (List PyData)
  | [] => some []
  | .d x :: ws => (allD ws).map (x :: ·)
  | .l _ :: _ => none
  | .x _ _ :: _ => none

/-- what a value is, read now -/
def toD (h : Hq) : W → Option PyData
  | .d x => some x
  | .x _ _ => none
  | .l n => match h[n]? with
    | some (.lst xs) => some (.list xs)
    | _ => none

def allO : List (Option PyData) → Option (List PyData)
  | [] => some []
  | none :: _ => none
  | some x :: r => (allO r).map (x :: ·)
/-- what a value is, read now, lists of lists as well -/
def toDn : Nat → Hq → W → Option PyData
  | _, _, .d x => some x
  | _, _, .x _ _ => none
  | 0, _, .l _ => none
  | k + 1, h, .l n => match h[n]? with
    | some (.lst xs) => some (.list xs)
    | some (.lsw ws) => (allO (ws.map (toDn k h))).map .list
    | _ => none
def toDD (h : Hq) (w : W) : Option PyData := toDn 3 h w

def maxI : List Int → Option Int
  | [] => none
  | x :: xs => match maxI xs with
    | none => some x
    | some m => some (if m < x then x else m)
def minI : List Int → Option Int
  | [] => none
  | x :: xs => match minI xs with
    | none => some x
    | some m => some (if x < m then x else m)
def liftO (o : Option PyData) (h : Hq) : R W := match o with
  | some x => .ok (.d x) h
  | none => .bad
def opM (f : PyData → PyData → Option PyData) (a b : W) (h : Hq) : R W := match toD h a, toD h b with
  | some d, some e => match f d e with
    | some (.list xs) => .ok (.l h.length) (h ++ [.lst xs])
    | _ => .bad
  | _, _ => .bad
def op2 (f : PyData → PyData → Option PyData) (a b : W) (h : Hq) : R W := match toD h a, toD h b with
  | some x, some y => liftO (f x y) h
  | _, _ => .bad

def sOk (i j : Int) : Bool := decide ((-(2 ^ 64) < i ∧ i < 2 ^ 64) ∨ (-(2 ^ 64) < j ∧ j < 2 ^ 64))
def divOk (j : Int) : Bool := decide (j ≠ 0 ∧ j.natAbs < 1073741824)
def powOk (i j : Int) : Bool := decide (0 ≤ j ∧ j ≤ 1000000 ∧ i.natAbs < 2 ^ 64)
def repOk (n : Nat) (k : Int) : Bool := decide (-(2 ^ 62) ≤ k ∧ k < 2 ^ 62 ∧ n * k.toNat ≤ SZ)
def repTOk (n : Nat) (k : Int) : Bool := decide (n ≤ 1000 ∧ -(2 ^ 62) ≤ k ∧ k ≤ 1000)
def repL {α : Type} (xs : List α) (k : Int) : List α := (List.replicate k.toNat xs).flatten

def evBin : Operator → PyData → PyData → Option PyData
  | .Add, .int i, .int j => some (.int (i + j))
  | .Add, .str x, .str y => if x.length + y.length ≤ SZ then some (.str (x ++ y)) else none
  | .Add, .list x, .list y => if x.length + y.length ≤ SZ then some (.list (x ++ y)) else none
  | .Add, .tuple x, .tuple y => if x.length + y.length ≤ SZ then some (.tuple (x ++ y)) else none
  | .Sub, .int i, .int j => some (.int (i - j))
  | .Mult, .int i, .int j => if sOk i j then some (.int (i * j)) else none
  | .Mult, .list x, .int k => if repOk x.length k then some (.list (repL x k)) else none
  | .Mult, .tuple x, .int k => if repTOk x.length k then some (.tuple (repL x k)) else none
  | .FloorDiv, .int i, .int j => if divOk j then some (.int (i.fdiv j)) else none
  | .Mod, .int i, .int j => if j ≠ 0 then some (.int (i.fmod j)) else none
  | .Pow, .int i, .int j => if powOk i j then some (.int (i ^ j.toNat)) else none
  | .LShift, .int i, .int j => if powOk i j then some (.int (i * 2 ^ j.toNat)) else none
  | _, _, _ => none

def dpt (d : PyData) : Bool := decide (d.depth ≤ 150)

def evCmp : CmpOp → PyData → PyData → Option PyData
  | .Lt, .int i, .int j => some (.bool (decide (i < j)))
  | .LtE, .int i, .int j => some (.bool (decide (i ≤ j)))
  | .Gt, .int i, .int j => some (.bool (decide (j < i)))
  | .GtE, .int i, .int j => some (.bool (decide (j ≤ i)))
  | .Lt, .tuple xs, .tuple ys => if PySem.W.alike (.tuple xs) (.tuple ys) && dpt (.tuple xs) then some (.bool (PySem.W.dataLt (.tuple xs) (.tuple ys))) else none
  | .LtE, .tuple xs, .tuple ys => if PySem.W.alike (.tuple xs) (.tuple ys) && dpt (.tuple xs) then some (.bool (!PySem.W.dataLt (.tuple ys) (.tuple xs))) else none
  | .Gt, .tuple xs, .tuple ys => if PySem.W.alike (.tuple xs) (.tuple ys) && dpt (.tuple xs) then some (.bool (PySem.W.dataLt (.tuple ys) (.tuple xs))) else none
  | .GtE, .tuple xs, .tuple ys => if PySem.W.alike (.tuple xs) (.tuple ys) && dpt (.tuple xs) then some (.bool (!PySem.W.dataLt (.tuple xs) (.tuple ys))) else none
  | .In, .str x, .str y => if x.length = 1 then some (.bool (y.cps.contains (x.cps.getD 0 0))) else none
  | .NotIn, .str x, .str y => if x.length = 1 then some (.bool (!y.cps.contains (x.cps.getD 0 0))) else none
  | .Eq, x, y => if dpt x || dpt y then some (.bool (PyData.eqv x y)) else none
  | .NotEq, x, y => if dpt x || dpt y then some (.bool (!PyData.eqv x y)) else none
  | .In, x, .list ys => if dpt x then some (.bool (ys.any fun y => PyData.eqv y x)) else none
  | .In, x, .tuple ys => if dpt x then some (.bool (ys.any fun y => PyData.eqv y x)) else none
  | .NotIn, x, .list ys => if dpt x then some (.bool (!ys.any fun y => PyData.eqv y x)) else none
  | .NotIn, x, .tuple ys => if dpt x then some (.bool (!ys.any fun y => PyData.eqv y x)) else none
  | _, _, _ => none

/-! dicts: their keys -/
mutual
def nkey : PyData → Option NestedKey
  | .none => some .none
  | .bool b => some (.num (if b = true then 1 else 0))
  | .int i => some (.num i)
  | .str x => some (.text x)
  | .tuple xs => (nkeys xs).map .tup
  | .list _ => none
  | .dict _ => none
def nkeys : List PyData → Option (List NestedKey)
  | [] => some []
  | x :: xs => match nkey x, nkeys xs with
    | some k, some ks => some (k :: ks)
    | _, _ => none
end
/-- a tuple that may be a key -/
def isKey : PyData → Bool
  | .tuple xs => (nkey (.tuple xs)).isSome && decide (PyData.depth (.tuple xs) ≤ 8)
  | _ => false
def keyEq (a b : PyData) : Bool := decide (nkey a = nkey b)
def dget (kvs : List (PyData × PyData)) (k : PyData) : Option PyData := (kvs.find? fun p => keyEq p.1 k).map (·.2)
def dput (kvs : List (PyData × PyData)) (k v : PyData) : List (PyData × PyData) := if (dget kvs k).isSome then kvs.map fun p => if keyEq p.1 k then (p.1, v) else p else kvs ++ [(k, v)]
def dctOf (h : Hq) : W → Option (List (PyData × PyData))
  | .l n => match h[n]? with
    | some (.dct kvs) => some kvs
    | _ => none
  | _ => none
/-! dicts whose keys are ints -/
def iget (kvs : List (Int × PyData)) (k : Int) : Option PyData := (kvs.find? fun p => decide (p.1 = k)).map (·.2)
def iput (kvs : List (Int × PyData)) (k : Int) (v : PyData) : List (Int × PyData) := if (iget kvs k).isSome then kvs.map fun p => if p.1 = k then (p.1, v) else p else kvs ++ [(k, v)]
def dkiOf (h : Hq) : W → Option (List (Int × PyData))
  | .l n => match h[n]? with
    | some (.dki kvs) => some kvs
    | _ => none
  | _ => none
def cmpI (o : CmpOp) (v w : W) (h : Hq) : R W := match dkiOf h w with
  | some kvs => match o, v with
    | .In, .d (.int k) => .ok (.d (.bool (iget kvs k).isSome)) h
    | .NotIn, .d (.int k) => .ok (.d (.bool (!(iget kvs k).isSome))) h
    | _, _ => .bad
  | none => .bad
/-- data of one kind, in order -/
def notNo : PyData → Bool
  | .none => false
  | _ => true
def alk (x y : PyData) : Bool := PySem.W.alike x y && notNo x && dpt x

/-- a comparison of two values -/
def cmpW (o : CmpOp) (v w : W) (h : Hq) : R W := match dctOf h w with
  | some kvs => match o, v with
    | .In, .d k => if isKey k then .ok (.d (.bool (dget kvs k).isSome)) h else .bad
    | .NotIn, .d k => if isKey k then .ok (.d (.bool (!(dget kvs k).isSome))) h else .bad
    | _, _ => .bad
  | none => match toDD h v, toDD h w with
    | some x, some y => liftO (evCmp o x y) h
    | _, _ => cmpI o v w h

/-- the place that an index of any sign means -/
def atZ {α : Type} (xs : List α) (i : Int) : Option α := L2.atI xs i
def cutL {α : Type} (xs : List α) (lo hi : Option Int) : List α := (xs.drop (HT.sIx xs.length 0 lo)).take (HT.sIx xs.length xs.length hi - HT.sIx xs.length 0 lo)

def evIdx (h : Hq) (a i : W) : R W := match a, i with
  | .d (.list xs), .d (.int k) => liftO (atZ xs k) h
  | .d (.tuple xs), .d (.int k) => liftO (atZ xs k) h
  | .d (.str s), .d (.int k) => if s.length ≤ SZ then match atZ s.cps.toList k with
    | some c => .ok (.d (.str ⟨#[c]⟩)) h
    | none => .bad
    else .bad
  | .l n, .d (.int k) => match h[n]? with
    | some (.lst xs) => liftO (atZ xs k) h
    | some (.lsw ws) => match atZ ws k with
      | some w => .ok w h
      | none => .bad
    | some (.dki kvs) => liftO (iget kvs k) h
    | _ => .bad
  | .l n, .d k => match h[n]? with
    | some (.dct kvs) => if isKey k then liftO (dget kvs k) h else .bad
    | _ => .bad
  | _, _ => .bad

def intO (w : Option W) : Option (Option Int) := match w with
  | none => some none
  | some (.d (.int i)) => some (some i)
  | _ => none
def evSlc (h : Hq) (a : W) (l u : Option Int) : R W := match toD h a with
  | some (.list xs) => .ok (.d (.list (cutL xs l u))) h
  | some (.tuple xs) => .ok (.d (.tuple (cutL xs l u))) h
  | _ => .bad
def evRev (h : Hq) (a : W) : R W := match toD h a with
  | some (.list xs) => .ok (.d (.list xs.reverse)) h
  | some (.tuple xs) => .ok (.d (.tuple xs.reverse)) h
  | _ => .bad

def intsOf : List PyData → Option (List Int)
  | [] => some []
  | .int i :: xs => (intsOf xs).map (i :: ·)
  | _ => none
def boolsOf : List PyData → Option (List Bool)
  | [] => some []
  | .bool i :: xs => (boolsOf xs).map (i :: ·)
  | _ => none
def sortI (ns : List Int) : List Int := ns.mergeSort (fun a b => decide (a ≤ b))

def insU (x : Int) : List Int → List Int
  | [] => [x]
  | y :: ys => if x < y then x :: y :: ys else if x = y then y :: ys else y :: insU x ys
/-- the members, ascending, each once -/
def sortU (ns : List Int) : List Int := ns.foldr insU []
def listInts : PyData → Option (List Int)
  | .list xs => intsOf xs
  | _ => none
def evLen (h : Hq) : W → Option Nat
  | .d (.list xs) => some xs.length
  | .d (.tuple xs) => some xs.length
  | .d (.str s) => if s.length ≤ SZ then some s.length else none
  | .l n => match h[n]? with
    | some (.lst xs) => some xs.length
    | some (.lsw xs) => some xs.length
    | _ => none
  | _ => none

/-- a list or a tuple, its items -/
def seqOf : PyData → Option (List PyData)
  | .list xs => some xs
  | .tuple xs => some xs
  | _ => none

/-- all of one kind -/
def alkAll (xs : List PyData) : Bool := xs.all fun x => notNo x && xs.all fun y => PySem.W.alike x y
def dptAll (xs : List PyData) : Bool := decide (PyData.depthAll xs ≤ 150)
def maxP (xs : List PyData) : Option PyData := match intsOf xs with
  | some ns => (maxI ns).map .int
  | none => match xs with
    | [] => none
    | x :: r => if alkAll (x :: r) && dptAll (x :: r) then some (PySem.W.maxD x r) else none
def minP (xs : List PyData) : Option PyData := match intsOf xs with
  | some ns => (minI ns).map .int
  | none => match xs with
    | [] => none
    | x :: r => if alkAll (x :: r) && dptAll (x :: r) then some (PySem.W.minD x r) else none
/-- tuples with an item at least, or none of them a tuple -/
def srtAll (xs : List PyData) : Bool := (xs.all fun x => match x with
  | .tuple (_ :: _) => true
  | _ => false) || (xs.all fun x => match x with
  | .tuple _ => false
  | .none => false
  | _ => true)
def sortD (xs : List PyData) : List PyData := xs.mergeSort (PySem.W.dataLe false id)
def sortP (xs : List PyData) : Option (List PyData) := match intsOf xs with
  | some ns => some ((sortI ns).map .int)
  | none => if alkAll xs && srtAll xs && dptAll xs then some (sortD xs) else none
def listOf : PyData → Option (List PyData)
  | .list xs => some xs
  | _ => none
/-- a text that is shown as a whole -/
def shownP (d : PyData) : Option PyData := if d.showable && (dpt d && decide (d.shown.length ≤ SZ)) then some (.str d.shown) else none
def listBools : PyData → Option (List Bool)
  | .list xs => boolsOf xs
  | _ => none
def evB (f : Bt) (ws : List W) (h : Hq) : R W := match f, ws with
  | .len, [w] => match evLen h w with
    | some n => .ok (.d (.int n)) h
    | none => .bad
  | .tuple, [w] => liftO (((toD h w).bind seqOf).map .tuple) h
  | .list, [w] => liftO (((toD h w).bind seqOf).map .list) h
  | .int, [.d (.int i)] => .ok (.d (.int i)) h
  | .int, [.d (.bool b)] => .ok (.d (.int (if b then 1 else 0))) h
  | .sum, [w] => liftO (((toD h w).bind listInts).map fun ns => .int ns.sum) h
  | .sorted, [w] => liftO ((((toD h w).bind seqOf).bind sortP).map .list) h
  | .max, [w] => liftO (((toD h w).bind seqOf).bind maxP) h
  | .min, [w] => liftO (((toD h w).bind seqOf).bind minP) h
  | .repr, [w] => liftO ((toDD h w).bind shownP) h
  | .max, [.d (.int i), .d (.int j)] => .ok (.d (.int (if j > i then j else i))) h
  | .min, [.d (.int i), .d (.int j)] => .ok (.d (.int (if j < i then j else i))) h
  | .all, [w] => liftO (((toD h w).bind listBools).map fun bs => .bool (bs.all id)) h
  | .any, [w] => liftO (((toD h w).bind listBools).map fun bs => .bool (bs.any id)) h
  | _, _ => .bad

/-- what stands ahead of the method's name is right, ahead of the arguments -/
def isLst (h : Hq) (w : W) : Bool := match toDD h w with
  | some (.list _) => true
  | _ => false
def recv (f : Mt) (h : Hq) (w : W) : Bool := match f with
  | .count => isLst h w
  | .index => isLst h w
  | .get => (dctOf h w).isSome
  | .pop => false
def evM (f : Mt) (w : W) (ws : List W) (h : Hq) : R W := match f, ws with
  | .count, [.d x] => match toD h w with
    | some (.list ys) => if dpt x then .ok (.d (.int (ys.countP fun y => PyData.eqv y x : Nat))) h else .bad
    | _ => .bad
  | .index, [.d x] => match toDD h w with
    | some (.list ys) => if dpt x then match ys.findIdx? fun y => PyData.eqv y x with
      | some j => .ok (.d (.int (j : Nat))) h
      | none => .bad
      else .bad
    | _ => .bad
  | .get, [.d k, v] => match dctOf h w with
    | some kvs => if isKey k then match dget kvs k with
      | some x => .ok (.d x) h
      | none => .ok v h
      else .bad
    | none => .bad
  | _, _ => .bad

def setAll : List Nat → List W → Vars → Vars
  | i :: is, w :: ws, env => setAll is ws (env.set i (some w))
  | _, _, env => env
/-- the targets of a loop's turn: one slot, or the slots that a tuple's items go to -/
def bindT (t : List Nat) (u : Bool) (w : W) (env : Vars) : Option Vars := match u with
  | false => match t with
    | [i] => some (env.set i (some w))
    | _ => none
  | true => match w with
    | .d (.tuple xs) => if xs.length = t.length then some (setAll t (xs.map .d) env) else none
    | .d (.list xs) => if xs.length = t.length then some (setAll t (xs.map .d) env) else none
    | _ => none

def rangeUp (lo hi : Int) : List W := (List.range (hi - lo).toNat).map fun (i : Nat) => W.d (.int (lo + i))
def rangeDn (hi lo : Int) : List W := (List.range (hi - lo).toNat).map fun (i : Nat) => W.d (.int (hi - i))
def rgOk (lo hi : Int) : Bool := decide (-(2 ^ 61) ≤ lo ∧ lo < 2 ^ 61 ∧ -(2 ^ 61) ≤ hi ∧ hi < 2 ^ 61 ∧ hi - lo ≤ 16777216)
/-- the items that are walked -/
def itemsOf (h : Hq) : W → Option (List W)
  | .d (.list xs) => some (xs.map .d)
  | .d (.tuple xs) => some (xs.map .d)
  | .d (.str s) => if s.length ≤ SZ then some (s.cps.toList.map fun c => .d (.str ⟨#[c]⟩)) else none
  | .l n => match h[n]? with
    | some (.lst xs) => some (xs.map .d)
    | some (.lsw ws) => some ws
    | _ => none
  | _ => none
/-- the place that must stay as it is while its items are walked -/
def liveW : W → Option Nat
  | .d _ => none
  | .x _ _ => none
  | .l n => some n
open Classical in
noncomputable def kpt {α : Type} (q : Option Nat) (h : Hq) (r : R α) : R α := match q with
  | none => r
  | some n => r.bind fun a h' => if h'[n]? = h[n]? then .ok a h' else .bad

def lcGo (f : W → Hq → R (Option W)) : List W → Hq → R (List W)
  | [], h => .ok [] h
  | w :: ws, h => (f w h).bind fun o h => (lcGo f ws h).bind fun rs h => match o with
    | some r => .ok (r :: rs) h
    | none => .ok rs h
def noEx {α : Type} : R α → R α
  | .ex _ _ _ => .bad
  | r => r
def lcEnd (k : Nat) (ws : List W) (h : Hq) : R W := match k with
  | 0 => match allD ws with
    | some ds => .ok (.d (.list ds)) h
    | none => .bad
  | 1 => match allD ws with
    | some ds => .ok (.l h.length) (h ++ [.lst ds])
    | none => .bad
  | _ => .ok (.l h.length) (h ++ [.lsw ws])

def boolO : Option W → Option Bool
  | none => some true
  | some (.d (.bool k)) => some k
  | _ => none
abbrev CallF := Nat → Nat → List W → Hq → R W

/-- a written dict's answer -/
def dlook (kvs : List (Str × Int)) (s : Str) : Option Int := kvs.foldl (fun acc p => if s = p.1 then some p.2 else acc) none
mutual
noncomputable def evE (b : Nat) (C : CallF) : E → Vars → Hq → R W
  | .bad, _, _ => .bad
  | .dnew, _, h => .ok (.l h.length) (h ++ [.dct []])
  | .dnewI, _, h => .ok (.l h.length) (h ++ [.dki []])
  | .glb x, _, h => .ok (.d (.int x)) h
  | .glbS x, _, h => .ok (.d (.str x)) h
  | .exis i cs, env, h => match env[i]? with
    | some (some (.x c _)) => .ok (.d (.bool (cs.contains c))) h
    | _ => .bad
  | .exfld i js, env, h => match env[i]? with
    | some (some (.x c ds)) => match (js.lookup c).bind (ds[·]?) with
      | some d => .ok (.d d) h
      | none => .bad
    | _ => .bad
  | .trg t a, env, h => (evE b C a env h).bind fun w h => match w with
    | .d (.int n) => if rgOk 0 n then .ok (.d ((if t then PyData.tuple else PyData.list) ((List.range n.toNat).map fun i => .int (i : Nat)))) h else .bad
    | _ => .bad
  | .isa c a, env, h => (evE b C a env h).bind fun w h => match toD h w with
    | some x => .ok (.d (.bool (isaD c x))) h
    | none => .bad
  | .dlg kvs k d, env, h => (evE b C k env h).bind fun v h => (evE b C d env h).bind fun w h => match v with
    | .d (.str s) => .ok (match dlook kvs s with
      | some i => .d (.int i)
      | none => w) h
    | _ => .bad
  | .var i, env, h => match env[i]? with
    | some (some w) => .ok w h
    | _ => .bad
  | .lit c, _, h => .ok (.d c) h
  | .tup es, env, h => (evEs b C es env h).bind fun ws h => match allD ws with
    | some ds => .ok (.d (.tuple ds)) h
    | none => .bad
  | .lst es, env, h => (evEs b C es env h).bind fun ws h => match allD ws with
    | some ds => .ok (.d (.list ds)) h
    | none => .bad
  | .lstM es, env, h => (evEs b C es env h).bind fun ws h => match allD ws with
    | some ds => .ok (.l h.length) (h ++ [.lst ds])
    | none => .bad
  | .lsw es, env, h => (evEs b C es env h).bind fun ws h => .ok (.l h.length) (h ++ [.lsw ws])
  | .bin o x y, env, h => (evE b C x env h).bind fun v h => (evE b C y env h).bind fun w h => op2 (evBin o) v w h
  | .binM o x y, env, h => (evE b C x env h).bind fun v h => (evE b C y env h).bind fun w h => opM (evBin o) v w h
  | .neg x, env, h => (evE b C x env h).bind fun v h => match v with
    | .d (.int i) => .ok (.d (.int (-i))) h
    | _ => .bad
  | .nt x, env, h => (evE b C x env h).bind fun v h => match v with
    | .d (.bool k) => .ok (.d (.bool (!k))) h
    | _ => .bad
  | .cmp o x y, env, h => (evE b C x env h).bind fun v h => (evE b C y env h).bind fun w h => cmpW o v w h
  | .isN x, env, h => (evE b C x env h).bind fun v h => match v with
    | .d .none => .ok (.d (.bool true)) h
    | _ => .ok (.d (.bool false)) h
  | .isB n k x, env, h => (evE b C x env h).bind fun v h => match v with
    | .d (.bool j) => .ok (.d (.bool (xor n (j == k)))) h
    | _ => .bad
  | .notN x, env, h => (evE b C x env h).bind fun v h => match v with
    | .d .none => .ok (.d (.bool false)) h
    | _ => .ok (.d (.bool true)) h
  | .cmp2 o p x y z, env, h => (evE b C x env h).bind fun v h => (evE b C y env h).bind fun w h => (cmpW o v w h).bind fun k h => match k with
    | .d (.bool true) => (evE b C z env h).bind fun u h => cmpW p w u h
    | .d (.bool false) => .ok (.d (.bool false)) h
    | _ => .bad
  | .one x, env, h => evE b C x env h
  | .and x y, env, h => (evE b C x env h).bind fun v h => match v with
    | .d (.bool true) => evE b C y env h
    | .d (.bool false) => .ok (.d (.bool false)) h
    | _ => .bad
  | .or x y, env, h => (evE b C x env h).bind fun v h => match v with
    | .d (.bool true) => .ok (.d (.bool true)) h
    | .d (.bool false) => evE b C y env h
    | _ => .bad
  | .ife c x y, env, h => (evE b C c env h).bind fun v h => match v with
    | .d (.bool true) => evE b C x env h
    | .d (.bool false) => evE b C y env h
    | _ => .bad
  | .idx x i, env, h => (evE b C x env h).bind fun v h => (evE b C i env h).bind fun w h => evIdx h v w
  | .rev x, env, h => (evE b C x env h).bind fun v h => evRev h v
  | .slc x lo hi, env, h => (evE b C x env h).bind fun v h => (evOe b C lo env h).bind fun l h => match intO l with
    | some l => (evOe b C hi env h).bind fun u h => match intO u with
      | some u => evSlc h v l u
      | none => .bad
    | none => .bad
  | .blt f es, env, h => (evEs b C es env h).bind fun ws h => evB f ws h
  | .mth f o es, env, h => (evE b C o env h).bind fun w h => if recv f h w then (evEs b C es env h).bind fun ws h => evM f w ws h else .bad
  | .sset x, env, h => (evE b C x env h).bind fun v h => match (toD h v).bind listInts with
    | some ns => if ns.length < 60 then .ok (.d (.list ((sortU ns).map .int))) h else .bad
    | none => .bad
  | .call f es, env, h => (evEs b C es env h).bind fun ws h => C b f ws h
  | .call0 f, env, h => C b f [] h
  | .lc k t u it c e, env, h => (evIt b C it env h).bind fun ws h => (noEx (lcGo (fun w h => kpt ws.2 h (match bindT t u w env with
      | some env => (evOe b C c env h).bind fun q h => match boolO q with
        | some true => (evE b C e env h).bind fun r h => .ok (some r) h
        | some false => .ok none h
        | none => .bad
      | none => .bad)) ws.1 h)).bind fun rs h => lcEnd k rs h
noncomputable def evEs (b : Nat) (C : CallF) : Es → Vars → Hq → R (List W)
  | .nil, _, h => .ok [] h
  | .cons e es, env, h => (evE b C e env h).bind fun w h => (evEs b C es env h).bind fun ws h => .ok (w :: ws) h
noncomputable def evOe (b : Nat) (C : CallF) : Oe → Vars → Hq → R (Option W)
  | .none, _, h => .ok none h
  | .some e, env, h => (evE b C e env h).bind fun w h => .ok (some w) h
noncomputable def evIt (b : Nat) (C : CallF) : It → Vars → Hq → R (List W × Option Nat)
  | .e a, env, h => (evE b C a env h).bind fun w h => match itemsOf h w with
    | some ws => .ok (ws, liveW w) h
    | none => .bad
  | .rg1 a, env, h => (evE b C a env h).bind fun w h => match w with
    | .d (.int n) => if rgOk 0 n then .ok (rangeUp 0 n, none) h else .bad
    | _ => .bad
  | .rg2 a c, env, h => (evE b C a env h).bind fun w h => (evE b C c env h).bind fun v h => match w, v with
    | .d (.int n), .d (.int k) => if rgOk n k then .ok (rangeUp n k, none) h else .bad
    | _, _ => .bad
  | .rgd a c, env, h => (evE b C a env h).bind fun w h => (evE b C c env h).bind fun v h => match w, v with
    | .d (.int n), .d (.int k) => if rgOk k n then .ok (rangeDn n k, none) h else .bad
    | _, _ => .bad
end

/-! ### statements -/
inductive Fl where
  | nx (env : Vars)
  | rt (w : W)
  | bk (env : Vars)
  | ct (env : Vars)

mutual
inductive S where
  | bad
  | asg (t : List Nat) (u : Bool) (e : E)
  | set (o i e : E)
  | app (o e : E)
  | expr (e : E)
  | ret (e : E)
  | retN
  | ifs (c : E) (a b : Ss)
  | forS (t : List Nat) (u : Bool) (it : It) (b : Ss)
  | whl (n : Nat) (c : E) (b : Ss)
  | pass | brk | cnt
  | rais (c : Nat) (es : Es)
  | tryS (cs : List Nat) (nm : Option Nat) (kp : List Nat) (body suite : Ss)
  | frz (i : Nat)
inductive Ss where
  | nil
  | cons (s : S) (ss : Ss)
end

def forGo (f : W → Vars → Hq → R Fl) : List W → Vars → Hq → R Fl
  | [], env, h => .ok (.nx env) h
  | w :: ws, env, h => (f w env h).bind fun q h => match q with
    | .nx env => forGo f ws env h
    | .ct env => forGo f ws env h
    | .bk env => .ok (.nx env) h
    | .rt v => .ok (.rt v) h
def whlGo (c : Vars → Hq → R W) (f : Vars → Hq → R Fl) : Nat → Vars → Hq → R Fl
  | 0, _, _ => .bad
  | n + 1, env, h => (c env h).bind fun v h => match v with
    | .d (.bool false) => .ok (.nx env) h
    | .d (.bool true) => (f env h).bind fun q h => match q with
      | .nx env => whlGo c f n env h
      | .ct env => whlGo c f n env h
      | .bk env => .ok (.nx env) h
      | .rt v => .ok (.rt v) h
    | _ => .bad

/-- o[i] = v -/
def evSet (b : Nat) (o i v : W) (h : Hq) : R Unit := match o, i with
  | .l n, .d (.int k) => match h[n]? with
    | some (.lst xs) => match L2.ixN xs.length k, v with
      | some j, .d x => .ok () (h.set n (.lst (xs.set j x)))
      | _, _ => .bad
    | some (.lsw ws) => match L2.ixN ws.length k with
      | some j => match v with
        | .d x => .ok () (h.set n (.lsw (ws.set j v)))
        | .l _ => if b ≤ n then .ok () (h.set n (.lsw (ws.set j v))) else .bad
        | .x _ _ => .bad
      | none => .bad
    | some (.dki kvs) => match v with
      | .d x => if kvs.length < 1000000 then .ok () (h.set n (.dki (iput kvs k x))) else .bad
      | _ => .bad
    | _ => .bad
  | .l n, .d k => match h[n]? with
    | some (.dct kvs) => match v with
      | .d x => if isKey k && decide (kvs.length < 1000000) then .ok () (h.set n (.dct (dput kvs k x))) else .bad
      | _ => .bad
    | _ => .bad
  | _, _ => .bad
/-- a list that may change -/
def recvL (h : Hq) (w : W) : Bool := match w with
  | .l n => match h[n]? with
    | some (.lst _) => true
    | some (.lsw _) => true
    | _ => false
  | _ => false
/-- o.append(v) -/
def evApp (b : Nat) (o v : W) (h : Hq) : R Unit := match o with
  | .l n => match h[n]? with
    | some (.lst xs) => match v with
      | .d x => if xs.length < SZ then .ok () (h.set n (.lst (xs ++ [x]))) else .bad
      | _ => .bad
    | some (.lsw ws) => match v with
      | .d x => if ws.length < SZ then .ok () (h.set n (.lsw (ws ++ [v]))) else .bad
      | .l _ => if ws.length < SZ ∧ b ≤ n then .ok () (h.set n (.lsw (ws ++ [v]))) else .bad
      | .x _ _ => .bad
    | _ => .bad
  | _ => .bad
/-- the list at a slot is never changed from here on -/
def evFrz (i : Nat) (env : Vars) (h : Hq) : R Fl := match env[i]? with
  | some (some (.l n)) => match h[n]? with
    | some (.lst xs) => .ok (.nx (env.set i (some (.d (.list xs))))) (h.set n .dead)
    | _ => .bad
  | _ => .bad

/-- the slots that a try's body leaves alone -/
def keepE (kp : List Nat) : Nat → Vars → Vars
  | _, [] => []
  | i, w :: ws => (if kp.contains i then w else none) :: keepE kp (i + 1) ws
/-- behind an except suite: its name is gone -/
def clrN (nm : Option Nat) (env : Vars) : Vars := match nm with
  | none => env
  | some i => env.set i none
def clrF (nm : Option Nat) : R Fl → R Fl
  | .ok (.nx env) h => .ok (.nx (clrN nm env)) h
  | .ok (.bk env) h => .ok (.bk (clrN nm env)) h
  | .ok (.ct env) h => .ok (.ct (clrN nm env)) h
  | .ok (.rt w) h => .ok (.rt w) h
  | _ => .bad
def setN (nm : Option Nat) (w : W) (env : Vars) : Vars := match nm with
  | none => env
  | some i => env.set i (some w)
def nmIn (nm : Option Nat) (env : Vars) : Bool := match nm with
  | none => true
  | some i => decide (i < env.length)
mutual
noncomputable def evS (b : Nat) (C : CallF) : S → Vars → Hq → R Fl
  | .bad, _, _ => .bad
  | .asg t u e, env, h => (evE b C e env h).bind fun w h => match bindT t u w env with
    | some env => .ok (.nx env) h
    | none => .bad
  | .set o i e, env, h => (evE b C e env h).bind fun v h => (evE b C o env h).bind fun w h => (evE b C i env h).bind fun k h => (evSet b w k v h).bind fun _ h => .ok (.nx env) h
  | .app o e, env, h => (evE b C o env h).bind fun w h => if recvL h w then (evE b C e env h).bind fun v h => (evApp b w v h).bind fun _ h => .ok (.nx env) h else .bad
  | .expr e, env, h => (evE b C e env h).bind fun _ h => .ok (.nx env) h
  | .ret e, env, h => (evE b C e env h).bind fun w h => .ok (.rt w) h
  | .retN, _, h => .ok (.rt (.d .none)) h
  | .ifs c x y, env, h => (evE b C c env h).bind fun v h => match v with
    | .d (.bool true) => evSs b C x env h
    | .d (.bool false) => evSs b C y env h
    | _ => .bad
  | .forS t u it s, env, h => (evIt b C it env h).bind fun ws h => forGo (fun w env h => kpt ws.2 h (match bindT t u w env with
    | some env => evSs b C s env h
    | none => .bad)) ws.1 env h
  | .whl n c s, env, h => whlGo (fun env h => evE b C c env h) (fun env h => evSs b C s env h) n env h
  | .pass, env, h => .ok (.nx env) h
  | .brk, env, h => .ok (.bk env) h
  | .cnt, env, h => .ok (.ct env) h
  | .rais c es, env, h => (evEs b C es env h).bind fun ws h => match allD ws with
    | some ds => .ex c ds h
    | none => .bad
  | .tryS cs nm kp x y, env, h => match evSs b C x env h with
    | .ex c ds h' => if cs.contains c then if !nmIn nm env then .bad else clrF nm (evSs b C y (setN nm (.x c ds) (keepE kp 0 env)) h') else .ex c ds h'
    | r => r
  | .frz i, env, h => evFrz i env h
noncomputable def evSs (b : Nat) (C : CallF) : Ss → Vars → Hq → R Fl
  | .nil, env, h => .ok (.nx env) h
  | .cons s ss, env, h => (evS b C s env h).bind fun q h => match q with
    | .nx env => evSs b C ss env h
    | q => .ok q h
end

/-! ### defs -/
structure FD where
  np : Nat
  ns : Nat
  tr : Bool
  body : Ss

def fin (tr : Bool) (n : Nat) (w : W) (h : Hq) : R W := match tr with
  | false => .ok w h
  | true => match w with
    | .d x => .ok (.d x) (h.take n)
    | _ => .bad
noncomputable def runF (C : CallF) (fd : FD) (b : Nat) (ws : List W) (h : Hq) : R W :=
  if ws.length = fd.np then
    match evSs (if fd.tr then h.length else b) C fd.body (ws.map some ++ List.replicate (fd.ns - fd.np) none) h with
    | .ok (.nx _) h' => fin fd.tr h.length (.d .none) h'
    | .ok (.rt w) h' => fin fd.tr h.length w h'
    | .ok _ _ => .bad
    | .ex c ds h' => .ex c ds (if fd.tr then h'.take h.length else h')
    | .bad => .bad
  else .bad
noncomputable def callN (T : List FD) : Nat → CallF
  | 0, _, _, _, _ => .bad
  | n + 1, b, f, ws, h => match T[f]? with
    | some fd => runF (callN T n) fd b ws h
    | none => .bad
theorem mem_insU {x k : Int} : ∀ {l : List Int}, k ∈ insU x l ↔ k = x ∨ k ∈ l
  | [] => by simp [insU]
  | y :: ys => by
    unfold insU
    split
    · simp
    · split
      · rename_i h; subst h; simp
      · simp only [List.mem_cons, mem_insU (l := ys)]
        constructor
        · rintro (h | h | h) <;> simp [h]
        · rintro (h | h | h) <;> simp [h]
theorem mem_sortU {k : Int} : ∀ {ns : List Int}, k ∈ sortU ns ↔ k ∈ ns
  | [] => by simp [sortU]
  | n :: ns => by
    show k ∈ insU n (sortU ns) ↔ _
    rw [mem_insU, mem_sortU]
    simp
theorem asc_insU {x : Int} : ∀ {l : List Int}, l.Pairwise (· < ·) → (insU x l).Pairwise (· < ·)
  | [], _ => by simp [insU]
  | y :: ys, h => by
    rw [List.pairwise_cons] at h
    unfold insU
    split
    · rename_i hx
      refine List.pairwise_cons.mpr ⟨fun z hz => ?_, List.pairwise_cons.mpr h⟩
      rcases List.mem_cons.mp hz with e | e
      · omega
      · have := h.1 z e; omega
    · split
      · exact List.pairwise_cons.mpr h
      · refine List.pairwise_cons.mpr ⟨fun z hz => ?_, asc_insU h.2⟩
        rcases mem_insU.mp hz with e | e
        · omega
        · exact h.1 z e
theorem asc_sortU : ∀ ns : List Int, (sortU ns).Pairwise (· < ·)
  | [] => .nil
  | n :: ns => asc_insU (asc_sortU ns)
theorem asc_eq : ∀ {a b : List Int}, a.Pairwise (· < ·) → b.Pairwise (· < ·) → (∀ k, k ∈ a ↔ k ∈ b) → a = b := by
  intro a b ha hb h
  have na : a.Nodup := ha.imp fun h => by omega
  have nb : b.Nodup := hb.imp fun h => by omega
  refine List.Perm.eq_of_pairwise (le := (· ≤ ·)) (fun a b _ _ h1 h2 => Int.le_antisymm h1 h2) (ha.imp fun h => by omega) (hb.imp fun h => by omega) ((List.perm_ext_iff_of_nodup na nb).mpr h)
end Ev

/-! EvB: how a small state (h, env) stands for a heap and slots of the layer. -/
namespace Ev
open PySem PySem.Spec L2
/-- the world (its hashes) -/
class Wd where
  w : World

section
variable {K : PySem.W.Frag}

def HpLe (F F' : Hp) : Prop := ∀ a o, F a = some o → F' a = some o
theorem HpLe.refl (F : Hp) : HpLe F F := fun _ _ h => h
theorem HpLe.trans {F F1 F2 : Hp} (a : HpLe F F1) (b : HpLe F1 F2) : HpLe F F2 := fun c o h => b c o (a c o h)
theorem HpLe.upd {F : Hp} {p : Addr} {o : HO} (h : F p = none) : HpLe F (upd F p o) := fun b u e => by
  rw [upd_ne (ne_of_none e h)]; exact e
theorem HpLe.rd {F F' : Hp} {a : Addr} {u : HO} (le : HpLe F F') (r : Rd F a u) : Rd F' a u := by
  rcases r with r | ⟨o, r⟩
  · exact .inl (le _ _ r)
  · exact .inr ⟨o, le _ _ r⟩
theorem HpLe.sql {F F' : Hp} {a : Addr} {xs : List V} (le : HpLe F F') (r : SqL K F a xs) : SqL K F' a xs := r.imp (le.rd) id
theorem HpLe.sqt {F F' : Hp} {a : Addr} {xs : List V} (le : HpLe F F') (r : SqT K F a xs) : SqT K F' a xs := r.imp (le.rd) id

mutual
theorem dp_mono {F F' : Hp} (le : HpLe F F') : ∀ (d : PyData) (v : V), Dp K F v d → Dp K F' v d
  | .none, _, h => by cases h; exact .non
  | .bool b, _, h => by cases h; exact .bl b
  | .int i, _, h => by cases h; exact .int i
  | .str x, _, h => by cases h; exact .str x
  | .list ds, _, h => by
    cases h with
    | lst hs ha => exact .lst (le.sql hs) (dps_mono le ds _ ha)
  | .tuple ds, _, h => by
    cases h with
    | tup hs ha => exact .tup (le.sqt hs) (dps_mono le ds _ ha)
  | .dict _, _, h => by cases h
theorem dps_mono {F F' : Hp} (le : HpLe F F') : ∀ (ds : List PyData) (vs : List V), DpAll K F vs ds → DpAll K F' vs ds
  | [], _, h => by cases h; exact .nil
  | d :: ds, _, h => by
    cases h with
    | cons h1 h2 => exact .cons (dp_mono le d _ h1) (dps_mono le ds _ h2)
end
mutual
theorem dp_plain {F : Hp} : ∀ (d : PyData) (v : V), Dp K F v d → d.plain = true
  | .none, _, _ => rfl
  | .bool b, _, _ => rfl
  | .int i, _, _ => rfl
  | .str x, _, _ => rfl
  | .list ds, _, h => by
    cases h with
    | lst hs ha => simp only [PyData.plain]; exact dps_plain ds _ ha
  | .tuple ds, _, h => by
    cases h with
    | tup hs ha => simp only [PyData.plain]; exact dps_plain ds _ ha
  | .dict _, _, h => by cases h
theorem dps_plain {F : Hp} : ∀ (ds : List PyData) (vs : List V), DpAll K F vs ds → PyData.plainAll ds = true
  | [], _, _ => rfl
  | d :: ds, _, h => by
    cases h with
    | cons h1 h2 => simp only [PyData.plainAll, dp_plain d _ h1, dps_plain ds _ h2, Bool.and_self]
end
end
end Ev
namespace L2
open PySem PySem.Spec
section
variable {K : PySem.W.Frag}
theorem DpAll.length {F : Hp} : ∀ {ds : List PyData} {vs : List V}, DpAll K F vs ds → vs.length = ds.length
  | [], _, h => by cases h; rfl
  | d :: ds, _, h => by
    cases h with
    | cons _ h2 => simp [DpAll.length h2]
theorem DpAll.app {F : Hp} : ∀ {xs ys : List PyData} {vs us : List V}, DpAll K F vs xs → DpAll K F us ys → DpAll K F (vs ++ us) (xs ++ ys)
  | [], _, _, _, h, g => by cases h; exact g
  | _ :: _, _, _, _, h, g => by
    cases h with
    | cons h1 h2 => exact .cons h1 (DpAll.app h2 g)
theorem DpAll.get {F : Hp} : ∀ {xs : List PyData} {vs : List V} {i : Nat} {x : PyData}, DpAll K F vs xs → xs[i]? = some x → ∃ v, vs[i]? = some v ∧ Dp K F v x
  | [], _, _, _, _, e => by simp at e
  | _ :: _, _, 0, _, h, e => by
    cases h with
    | cons h1 h2 => simp at e; subst e; exact ⟨_, rfl, h1⟩
  | _ :: xs, _, i + 1, _, h, e => by
    cases h with
    | cons h1 h2 => simpa using DpAll.get (i := i) h2 (by simpa using e)
theorem DpAll.set {F : Hp} {x : PyData} {v : V} (d : Dp K F v x) : ∀ {xs : List PyData} {vs : List V} (i : Nat), DpAll K F vs xs → DpAll K F (vs.set i v) (xs.set i x)
  | [], _, _, h => by cases h; exact .nil
  | _ :: _, _, 0, h => by
    cases h with
    | cons h1 h2 => exact .cons d h2
  | _ :: _, _, i + 1, h => by
    cases h with
    | cons h1 h2 => exact .cons h1 (DpAll.set d i h2)
theorem DpAll.take {F : Hp} : ∀ {xs : List PyData} {vs : List V} (n : Nat), DpAll K F vs xs → DpAll K F (vs.take n) (xs.take n)
  | _, _, 0, _ => by simp; exact .nil
  | [], _, _ + 1, h => by cases h; exact .nil
  | _ :: _, _, n + 1, h => by
    cases h with
    | cons h1 h2 => exact .cons h1 (DpAll.take n h2)
theorem DpAll.drop {F : Hp} : ∀ {xs : List PyData} {vs : List V} (n : Nat), DpAll K F vs xs → DpAll K F (vs.drop n) (xs.drop n)
  | _, _, 0, h => h
  | [], _, _ + 1, h => by cases h; exact .nil
  | _ :: _, _, n + 1, h => by
    cases h with
    | cons h1 h2 => exact DpAll.drop n h2
theorem DpAll.rep {F : Hp} {xs : List PyData} {vs : List V} (h : DpAll K F vs xs) : ∀ k : Nat, DpAll K F (List.replicate k vs).flatten (List.replicate k xs).flatten
  | 0 => .nil
  | k + 1 => by
    simp only [List.replicate_succ, List.flatten_cons]
    exact h.app (DpAll.rep h k)

end
end L2
namespace Ev
open PySem PySem.Spec L2
/-- a dict's table -/
def RawD (w : World) (h : Heap) (a : Addr) (es : List (NestedKey × Addr × Value)) : Prop := ∃ o es' ep, h.get? a = some o ∧ o.ExactDict ∧ o.data = .dict es' ep ∧ es'.toList = es.map fun x => (⟨x.1.hash w, .ref x.2.1, x.2.2⟩ : DictEntry)
section
variable [Wd]
def dctO (a : Addr) (es : List (NestedKey × Addr × Value)) : HO := .ext fun h => RawD Wd.w h a es
end
/-- a dict's keys and values, as data -/
inductive DK (K : PySem.W.Frag) (F : Hp) : List (PyData × PyData) → List (NestedKey × Addr × Value) → Prop
  | nil : DK K F [] []
  | cons {d x : PyData} {r : List (PyData × PyData)} {k : NestedKey} {a : Addr} {u : Value} {v : V} {s : List (NestedKey × Addr × Value)} : nkey d = some k → Dp K F (.ref a) d → d.depth ≤ 8 → RelV v u → Dp K F v x → DK K F r s → DK K F ((d, x) :: r) ((k, a, u) :: s)
/-- the same of a dict whose keys are ints -/
inductive DI (K : PySem.W.Frag) (F : Hp) : List (Int × PyData) → List (L2.Key × V) → Prop
  | nil : DI K F [] []
  | cons {i : Int} {x : PyData} {r : List (Int × PyData)} {v : V} {s : List (L2.Key × V)} : Dp K F v x → DI K F r s → DI K F ((i, x) :: r) ((.inl i, v) :: s)
theorem DI.mono {K : PySem.W.Frag} {F F' : Hp} (le : HpLe F F') {r : List (Int × PyData)} {s : List (L2.Key × V)} (h : DI K F r s) : DI K F' r s := by
  induction h with
  | nil => exact .nil
  | cons h1 _ ih => exact .cons (dp_mono le _ _ h1) ih
theorem DI.length {K : PySem.W.Frag} {F : Hp} {r : List (Int × PyData)} {s : List (L2.Key × V)} (h : DI K F r s) : s.length = r.length := by
  induction h with
  | nil => rfl
  | cons _ _ ih => simp [ih]
theorem DI.get {K : PySem.W.Frag} {F : Hp} {r : List (Int × PyData)} {s : List (L2.Key × V)} (h : DI K F r s) (k : Int) :
    match iget r k with
    | some x => ∃ v, valV s (.inl k) = some v ∧ Dp K F v x
    | none => valV s (.inl k) = none := by
  induction h with
  | nil => simp [iget, valV]
  | cons h1 h2 ih =>
    rename_i i x r v s
    by_cases e : i = k
    · subst e
      simp only [iget, List.find?_cons, decide_true, Option.map_some]
      exact ⟨v, valV_pos rfl, h1⟩
    · have e' : ¬ (Sum.inl i : L2.Key) = .inl k := fun z => e (Sum.inl.inj z)
      simp only [iget, List.find?_cons, e, decide_false] at ih ⊢
      rw [valV_neg e']
      exact ih
theorem DI.repl {K : PySem.W.Frag} {F : Hp} {r : List (Int × PyData)} {s : List (L2.Key × V)} (h : DI K F r s) (k : Int) {v : V} {x : PyData} (hv : Dp K F v x) :
    DI K F (r.map fun p => if p.1 = k then (p.1, x) else p) (s.map fun kv => if kv.1 = .inl k then (kv.1, v) else kv) := by
  induction h with
  | nil => exact .nil
  | cons h1 h2 ih =>
    rename_i i y r u s
    by_cases e : i = k
    · subst e
      simp only [List.map_cons, if_true]
      exact .cons hv ih
    · have e' : ¬ (Sum.inl i : L2.Key) = .inl k := fun z => e (Sum.inl.inj z)
      simp only [List.map_cons, if_neg e, if_neg e']
      exact .cons h1 ih
theorem DI.snoc {K : PySem.W.Frag} {F : Hp} {r : List (Int × PyData)} {s : List (L2.Key × V)} (h : DI K F r s) (k : Int) {v : V} {x : PyData} (hv : Dp K F v x) : DI K F (r ++ [(k, x)]) (s ++ [(.inl k, v)]) := by
  induction h with
  | nil => exact .cons hv .nil
  | cons h1 _ ih => exact .cons h1 ih
theorem DI.put {K : PySem.W.Frag} {F : Hp} {r : List (Int × PyData)} {s : List (L2.Key × V)} (h : DI K F r s) (k : Int) {v : V} {x : PyData} (hv : Dp K F v x) : DI K F (iput r k x) (putK s (.inl k) v) := by
  have g := h.get k
  unfold iput putK
  rw [valV_any]
  cases e : iget r k with
  | some y =>
    rw [e] at g
    obtain ⟨u, e1, _⟩ := g
    rw [e1]
    exact h.repl k hv
  | none =>
    rw [e] at g
    rw [g]
    exact h.snoc k hv
theorem DK.mono {K : PySem.W.Frag} {F F' : Hp} (le : HpLe F F') {r : List (PyData × PyData)} {s : List (NestedKey × Addr × Value)} (h : DK K F r s) : DK K F' r s := by
  induction h with
  | nil => exact .nil
  | cons h1 h2 h3 h4 h5 _ ih => exact .cons h1 (dp_mono le _ _ h2) h3 h4 (dp_mono le _ _ h5) ih
theorem DK.length {K : PySem.W.Frag} {F : Hp} {r : List (PyData × PyData)} {s : List (NestedKey × Addr × Value)} (h : DK K F r s) : s.length = r.length := by
  induction h with
  | nil => rfl
  | cons _ _ _ _ _ _ ih => simp [ih]
section
variable {K : PySem.W.Frag} [Wd]
/-! ### values and objects -/
def WR (K : PySem.W.Frag) (m : List Addr) (F : Hp) (v : V) : W → Prop
  | .d x => Dp K F v x
  | .l n => ∃ a, m[n]? = some a ∧ v = .ref a
  | .x _ _ => False
inductive WRs (K : PySem.W.Frag) (m : List Addr) (F : Hp) : List V → List W → Prop
  | nil : WRs K m F [] []
  | cons {v : V} {vs : List V} {w : W} {ws : List W} : WR K m F v w → WRs K m F vs ws → WRs K m F (v :: vs) (w :: ws)
theorem WRs.length {m : List Addr} {F : Hp} : ∀ {ws : List W} {vs : List V}, WRs K m F vs ws → vs.length = ws.length
  | [], _, h => by cases h; rfl
  | _ :: _, _, h => by
    cases h with
    | cons _ h2 => simp [WRs.length h2]
theorem WRs.app {m : List Addr} {F : Hp} : ∀ {xs ys : List W} {vs us : List V}, WRs K m F vs xs → WRs K m F us ys → WRs K m F (vs ++ us) (xs ++ ys)
  | [], _, _, _, h, g => by cases h; exact g
  | _ :: _, _, _, _, h, g => by
    cases h with
    | cons h1 h2 => exact .cons h1 (WRs.app h2 g)
theorem WRs.get {m : List Addr} {F : Hp} : ∀ {xs : List W} {vs : List V} {i : Nat} {x : W}, WRs K m F vs xs → xs[i]? = some x → ∃ v, vs[i]? = some v ∧ WR K m F v x
  | [], _, _, _, _, e => by simp at e
  | _ :: _, _, 0, _, h, e => by
    cases h with
    | cons h1 h2 => simp at e; subst e; exact ⟨_, rfl, h1⟩
  | _ :: xs, _, i + 1, _, h, e => by
    cases h with
    | cons h1 h2 => simpa using WRs.get (i := i) h2 (by simpa using e)
theorem WRs.set {m : List Addr} {F : Hp} {x : W} {v : V} (d : WR K m F v x) : ∀ {xs : List W} {vs : List V} (i : Nat), WRs K m F vs xs → WRs K m F (vs.set i v) (xs.set i x)
  | [], _, _, h => by cases h; exact .nil
  | _ :: _, _, 0, h => by
    cases h with
    | cons h1 h2 => exact .cons d h2
  | _ :: _, _, i + 1, h => by
    cases h with
    | cons h1 h2 => exact .cons h1 (WRs.set d i h2)
theorem WRs.ofD {m : List Addr} {F : Hp} : ∀ {xs : List PyData} {vs : List V}, DpAll K F vs xs → WRs K m F vs (xs.map .d)
  | [], _, h => by cases h; exact .nil
  | _ :: _, _, h => by
    cases h with
    | cons h1 h2 => exact .cons h1 (WRs.ofD h2)
theorem WRs.toD {m : List Addr} {F : Hp} : ∀ {ws : List W} {vs : List V} {xs : List PyData}, WRs K m F vs ws → allD ws = some xs → DpAll K F vs xs
  | [], _, _, h, e => by cases h; simp [allD] at e; subst e; exact .nil
  | .d x :: ws, _, _, h, e => by
    cases h with
    | cons h1 h2 =>
      simp only [allD, Option.map_eq_some_iff] at e
      obtain ⟨ys, e, rfl⟩ := e
      exact .cons h1 (WRs.toD h2 e)
  | .l _ :: _, _, _, _, e => by simp [allD] at e
  | .x _ _ :: _, _, _, _, e => by simp [allD] at e

structure MLe (m m' : List Addr) : Prop where
  pre : ∃ t, m' = m ++ t
theorem MLe.refl (m : List Addr) : MLe m m := ⟨[], by simp⟩
theorem MLe.trans {a b c : List Addr} (h : MLe a b) (g : MLe b c) : MLe a c := by
  obtain ⟨t, rfl⟩ := h.pre
  obtain ⟨u, rfl⟩ := g.pre
  exact ⟨t ++ u, by simp⟩
theorem MLe.get {m m' : List Addr} (h : MLe m m') {n : Nat} {a : Addr} (e : m[n]? = some a) : m'[n]? = some a := by
  obtain ⟨t, rfl⟩ := h.pre
  rw [List.getElem?_append_left (List.getElem?_eq_some_iff.mp e).1]; exact e
theorem MLe.mem {m m' : List Addr} (h : MLe m m') {a : Addr} (e : a ∈ m) : a ∈ m' := by
  obtain ⟨t, rfl⟩ := h.pre
  exact List.mem_append_left _ e
theorem wr_mono {m m' : List Addr} {F F' : Hp} {v : V} (l : MLe m m') (le : HpLe F F') : ∀ {w : W}, WR K m F v w → WR K m' F' v w
  | .d x, h => dp_mono le x v h
  | .l n, ⟨a, e, q⟩ => ⟨a, l.get e, q⟩
  | .x _ _, h => h.elim
theorem wrs_mono {m m' : List Addr} {F F' : Hp} (l : MLe m m') (le : HpLe F F') : ∀ {ws : List W} {vs : List V}, WRs K m F vs ws → WRs K m' F' vs ws
  | [], _, h => by cases h; exact .nil
  | _ :: _, _, h => by
    cases h with
    | cons h1 h2 => exact .cons (wr_mono l le h1) (wrs_mono l le h2)

def refsW : W → List Nat
  | .d _ => []
  | .x _ _ => []
  | .l n => [n]
def refs : Ob → List Nat
  | .lsw ws => ws.flatMap refsW
  | _ => []
def OR (K : PySem.W.Frag) (m : List Addr) (F H : Hp) (a : Addr) : Ob → Prop
  | .lst xs => F a = none ∧ ∃ vs, H a = some (.lst vs) ∧ DpAll K F vs xs
  | .lsw ws => F a = none ∧ ∃ vs, H a = some (.lst vs) ∧ WRs K m F vs ws
  | .dct kvs => F a = none ∧ ∃ es, H a = some (dctO a es) ∧ DK K F kvs es ∧ (es.map (·.1)).Nodup ∧ (a == sysModules) = false ∧ kvs.length ≤ 1000000
  | .dki kvs => F a = none ∧ ∃ vs, H a = some (.dK vs) ∧ DI K F kvs vs ∧ kvs.length ≤ 1000000
  | .dead => True

structure HR (K : PySem.W.Frag) (B : List Nat) (m : List Addr) (F : Hp) (h : Hq) (H : Hp) : Prop where
  len : m.length = h.length
  nd : m.Nodup
  ob : ∀ (n : Nat) (o : Ob) (a : Addr), h[n]? = some o → m[n]? = some a → OR K m F H a o
  sub : HpLe F H
  there : ∀ a ∈ m, H a ≠ none
  clo : ∀ c ∈ B, c ≤ h.length ∧ ∀ (n : Nat) (o : Ob) (k : Nat), n < c → h[n]? = some o → k ∈ refs o → k < c
/-- the exception that an except suite holds: its slot, its address, its number and data -/
structure ExI where
  i : Nat
  a : Addr
  n : Nat
  ds : List PyData
  R : Hp → Prop
  mono : ∀ F F', HpLe F F' → R F → R F'
structure BB where
  c : List Nat
  ex : Option ExI
structure SR (K : PySem.W.Frag) (B : BB) (m : List Addr) (F : Hp) (env : Vars) (h : Hq) (σ : St) (H : Hp) : Prop where
  hr : HR K B.c m F h H
  el : env.length ≤ σ.length
  var : ∀ (i : Nat) (w : W), (∀ e, B.ex = some e → i ≠ e.i) → env[i]? = some (some w) → ∃ v, σ[i]? = some (some v) ∧ WR K m F v w
  exv : ∀ e, B.ex = some e → env[e.i]? = some (some (.x e.n e.ds)) ∧ σ[e.i]? = some (some (.ref e.a)) ∧ e.R F
/-- behind something: what was told stays -/
structure Ext (m : List Addr) (F H : Hp) (m' : List Addr) (F' H' : Hp) : Prop where
  ml : MLe m m'
  sub : HpLe F F'
  frm : ∀ a o, H a = some o → a ∉ m → H' a = some o
  new : ∀ a, a ∈ m' → a ∉ m → H a = none
  frf : ∀ a, a ∉ m → F a = none → H a ≠ none → F' a = none
theorem Ext.refl (m : List Addr) (F H : Hp) : Ext m F H m F H := ⟨.refl _, .refl _, fun _ _ h _ => h, fun _ h g => absurd h g, fun _ _ h _ => h⟩
theorem Ext.trans {m m1 m2 : List Addr} {F F1 F2 H H1 H2 : Hp} (a : Ext m F H m1 F1 H1) (b : Ext m1 F1 H1 m2 F2 H2) : Ext m F H m2 F2 H2 := by
  have nm : ∀ x o, H x = some o → x ∉ m → x ∉ m1 := fun x o e hx hm => by
    have := a.new x hm hx
    rw [e] at this; cases this
  refine ⟨a.ml.trans b.ml, a.sub.trans b.sub, fun x o e hx => b.frm x o (a.frm x o e hx) (nm x o e hx), fun x hx hm => ?_, fun x hx hf hh => ?_⟩
  · by_cases h1 : x ∈ m1
    · exact a.new x h1 hm
    · have := b.new x hx h1
      cases q : H x with
      | none => rfl
      | some o => rw [a.frm x o q hm] at this; cases this
  · obtain ⟨o, e⟩ := Option.ne_none_iff_exists'.mp hh
    exact b.frf x (nm x o e hx) (a.frf x hx hf hh) (by rw [a.frm x o e hx]; simp)

section
variable {B : List Nat} {m : List Addr} {F H : Hp} {env : Vars} {h : Hq} {σ : St} {p a : Addr} {n : Nat}
theorem HR.freeF (r : HR K B m F h H) (hp : H p = none) : F p = none := by
  cases q : F p with
  | none => rfl
  | some o => have := r.sub _ _ q; rw [hp] at this; cases this
theorem HR.freeM (r : HR K B m F h H) (hp : H p = none) : p ∉ m := fun hm => r.there p hm hp
theorem HR.at (r : HR K B m F h H) {o : Ob} (e : h[n]? = some o) : ∃ a, m[n]? = some a ∧ OR K m F H a o := by
  have hn : n < m.length := by rw [r.len]; exact (List.getElem?_eq_some_iff.mp e).1
  exact ⟨m[n], by simp [hn], r.ob n o _ e (by simp [hn])⟩
theorem or_mono {m' : List Addr} {F' H' : Hp} {o : Ob} (l : MLe m m') (le : HpLe F F') (hF : F a = none → F' a = none) (hH : ∀ u, H a = some u → F a = none → H' a = some u) (q : OR K m F H a o) : OR K m' F' H' a o := by
  cases o with
  | lst xs =>
    obtain ⟨f, vs, e, d⟩ := q
    exact ⟨hF f, vs, hH _ e f, dps_mono le _ _ d⟩
  | lsw ws =>
    obtain ⟨f, vs, e, d⟩ := q
    exact ⟨hF f, vs, hH _ e f, wrs_mono l le d⟩
  | dct _ =>
    obtain ⟨f, es, e, d, r⟩ := q
    exact ⟨hF f, es, hH _ e f, d.mono le, r⟩
  | dki _ =>
    obtain ⟨f, es, e, d, r⟩ := q
    exact ⟨hF f, es, hH _ e f, d.mono le, r⟩
  | dead => trivial
/-- a new thing that never changes -/
theorem HR.newF (r : HR K B m F h H) {u : HO} (hp : H p = none) : HR K B m (upd F p u) h (upd H p u) ∧ Ext m F H m (upd F p u) (upd H p u) := by
  have fp := r.freeF hp
  have mp := r.freeM hp
  have le : HpLe F (upd F p u) := .upd fp
  refine ⟨⟨r.len, r.nd, fun n o a e ea => ?_, fun b o e => ?_, fun b hb => ?_, r.clo⟩, ⟨.refl _, le, fun b o e _ => by rw [upd_ne (ne_of_none e hp)]; exact e, fun _ x y => absurd x y, fun b hb hf hh => ?_⟩⟩
  · have hap : a ≠ p := fun z => mp (z ▸ List.mem_of_getElem? ea)
    exact or_mono (.refl _) le (fun f => by rw [upd_ne hap]; exact f) (fun u e _ => by rw [upd_ne hap]; exact e) (r.ob n o a e ea)
  · by_cases hb : b = p
    · subst hb; rw [upd_same] at e ⊢; exact e
    · rw [upd_ne hb] at e ⊢; exact r.sub b o e
  · rw [upd_ne (show b ≠ p from fun z => mp (z ▸ hb))]; exact r.there b hb
  · have hbp : b ≠ p := fun z => hh (z ▸ hp)
    rw [upd_ne hbp]; exact hf
theorem getElem?_snoc {α : Type} {l : List α} {x y : α} {i : Nat} (e : (l ++ [x])[i]? = some y) : (i < l.length ∧ l[i]? = some y) ∨ (i = l.length ∧ y = x) := by
  rcases Nat.lt_trichotomy i l.length with h | h | h
  · rw [List.getElem?_append_left h] at e; exact .inl ⟨h, e⟩
  · subst h; simp at e; exact .inr ⟨rfl, e.symm⟩
  · rw [List.getElem?_append_right (by omega)] at e
    have : i - l.length ≠ 0 := by omega
    obtain ⟨k, hk⟩ := Nat.exists_eq_succ_of_ne_zero this
    rw [hk] at e; simp at e
/-- a new object that may change; u: what stands at p -/
theorem HR.newL (r : HR K B m F h H) {u : HO} {o : Ob} (hp : H p = none) (ho : OR K (m ++ [p]) F (upd H p u) p o) (hc : ∀ c ∈ B, c ≤ h.length → True) : HR K B (m ++ [p]) F (h ++ [o]) (upd H p u) ∧ Ext m F H (m ++ [p]) F (upd H p u) := by
  have fp := r.freeF hp
  have mp := r.freeM hp
  have ml : MLe m (m ++ [p]) := ⟨[p], rfl⟩
  refine ⟨⟨by simp [r.len], ?_, fun n q a e ea => ?_, fun b q e => ?_, fun b hb => ?_, fun c hc => ?_⟩, ⟨ml, .refl _, fun b q e _ => by rw [upd_ne (ne_of_none e hp)]; exact e, fun b x y => ?_, fun _ _ hf _ => hf⟩⟩
  · rw [List.nodup_append]
    refine ⟨r.nd, by simp, fun a ha b hb => ?_⟩
    have : b = p := by simpa using hb
    subst this
    exact fun z => mp (z ▸ ha)
  · rcases getElem?_snoc e with ⟨hn, e⟩ | ⟨hn, rfl⟩
    · rw [List.getElem?_append_left (by rw [r.len]; exact hn)] at ea
      have hap : a ≠ p := fun z => mp (z ▸ List.mem_of_getElem? ea)
      exact or_mono ml (.refl _) id (fun u e _ => by rw [upd_ne hap]; exact e) (r.ob n q a e ea)
    · rw [hn, ← r.len] at ea
      simp at ea
      subst ea; exact ho
  · rw [upd_ne (fun z => by subst z; rw [fp] at e; cases e)]; exact r.sub b q e
  · rcases List.mem_append.mp hb with hb | hb
    · rw [upd_ne (show b ≠ p from fun z => mp (z ▸ hb))]; exact r.there b hb
    · have : b = p := by simpa using hb
      subst this; rw [upd_same]; simp
  · obtain ⟨h1, h2⟩ := r.clo c hc
    refine ⟨by simp; omega, fun n q k hn e hk => ?_⟩
    rw [List.getElem?_append_left (by omega)] at e
    exact h2 n q k hn e hk
  · rcases List.mem_append.mp x with x | x
    · exact absurd x y
    · have : b = p := by simpa using x
      subst this; exact hp
theorem nd_ne {l : List Addr} (hN : l.Nodup) {i j : Nat} {x y : Addr} (a : l[i]? = some x) (b : l[j]? = some y) (ne : i ≠ j) : x ≠ y := fun z => by
  subst z
  obtain ⟨h1, e1⟩ := List.getElem?_eq_some_iff.mp a
  obtain ⟨h2, e2⟩ := List.getElem?_eq_some_iff.mp b
  exact ne ((List.getElem_inj hN).mp (e1.trans e2.symm))
/-- an object changes -/
theorem HR.put (r : HR K B m F h H) {u : HO} {o : Ob} (hm : m[n]? = some a) (fa : F a = none) (ho : OR K m F (upd H a u) a o) (hc : ∀ c ∈ B, n < c → ∀ k ∈ refs o, k < c) :
    HR K B m F (h.set n o) (upd H a u) ∧ Ext m F H m F (upd H a u) := by
  have am : a ∈ m := List.mem_of_getElem? hm
  refine ⟨⟨by simp [r.len], r.nd, fun k q b e eb => ?_, fun b q e => ?_, fun b hb => ?_, fun c hB => ?_⟩, ⟨.refl _, .refl _, fun b q e hb => ?_, fun _ x y => absurd x y, fun _ _ hf _ => hf⟩⟩
  · by_cases hk : k = n
    · subst hk
      have hl : k < h.length := by rw [← r.len]; exact (List.getElem?_eq_some_iff.mp hm).1
      rw [List.getElem?_set_self hl] at e
      rw [hm] at eb
      cases e; cases eb; exact ho
    · rw [List.getElem?_set_ne (Ne.symm hk)] at e
      have hab : b ≠ a := nd_ne r.nd eb hm hk
      exact or_mono (.refl _) (.refl _) id (fun u e _ => by rw [upd_ne hab]; exact e) (r.ob k q b e eb)
  · rw [upd_ne (fun z => by subst z; rw [fa] at e; cases e)]; exact r.sub b q e
  · by_cases hb' : b = a
    · subst hb'; rw [upd_same]; simp
    · rw [upd_ne hb']; exact r.there b hb
  · obtain ⟨h1, h2⟩ := r.clo c hB
    refine ⟨by simpa using h1, fun k q j hk e hj => ?_⟩
    by_cases hkn : k = n
    · subst hkn
      have hl : k < h.length := by omega
      rw [List.getElem?_set_self hl] at e
      cases e
      exact hc c hB hk j hj
    · rw [List.getElem?_set_ne (Ne.symm hkn)] at e
      exact h2 k q j hk e hj
  · rw [upd_ne (show b ≠ a from fun z => hb (z ▸ am))]; exact e
/-- a list is never changed from here on -/
theorem HR.frz (r : HR K B m F h H) {vs : List V} (hm : m[n]? = some a) (fa : F a = none) (e : H a = some (.lst vs)) :
    HR K B m (upd F a (.lst vs)) (h.set n .dead) H ∧ Ext m F H m (upd F a (.lst vs)) H := by
  have am : a ∈ m := List.mem_of_getElem? hm
  have le : HpLe F (upd F a (.lst vs)) := .upd fa
  refine ⟨⟨by simp [r.len], r.nd, fun k q b eq eb => ?_, fun b q eq => ?_, r.there, fun c hB => ?_⟩, ⟨.refl _, le, fun b q e _ => e, fun _ x y => absurd x y, fun b hb hf _ => ?_⟩⟩
  · by_cases hk : k = n
    · subst hk
      have hl : k < h.length := by rw [← r.len]; exact (List.getElem?_eq_some_iff.mp hm).1
      rw [List.getElem?_set_self hl] at eq
      cases eq; trivial
    · rw [List.getElem?_set_ne (Ne.symm hk)] at eq
      have hab : b ≠ a := nd_ne r.nd eb hm hk
      exact or_mono (.refl _) le (fun f => by rw [upd_ne hab]; exact f) (fun u e _ => e) (r.ob k q b eq eb)
  · by_cases hb : b = a
    · subst hb; rw [upd_same] at eq; cases eq; exact e
    · rw [upd_ne hb] at eq; exact r.sub b q eq
  · obtain ⟨h1, h2⟩ := r.clo c hB
    refine ⟨by simpa using h1, fun k q j hk eq hj => ?_⟩
    by_cases hkn : k = n
    · subst hkn
      have hl : k < h.length := by omega
      rw [List.getElem?_set_self hl] at eq
      cases eq
      simp [refs] at hj
    · rw [List.getElem?_set_ne (Ne.symm hkn)] at eq
      exact h2 k q j hk eq hj
  · rw [upd_ne (show b ≠ a from fun z => hb (z ▸ am))]; exact hf
/-- an unseen change: something else that is tracked -/
theorem HR.other (r : HR K B m F h H) {u : HO} (fp : F p = none) (mp : p ∉ m) : HR K B m F h (upd H p u) := by
  refine ⟨r.len, r.nd, fun n o a e ea => ?_, fun b o e => ?_, fun b hb => ?_, r.clo⟩
  · have hap : a ≠ p := fun z => mp (z ▸ List.mem_of_getElem? ea)
    exact or_mono (.refl _) (.refl _) id (fun u e _ => by rw [upd_ne hap]; exact e) (r.ob n o a e ea)
  · rw [upd_ne (fun z => by subst z; rw [fp] at e; cases e)]; exact r.sub b o e
  · rw [upd_ne (show b ≠ p from fun z => mp (z ▸ hb))]; exact r.there b hb
theorem take_app {α : Type} {m t : List α} {k : Nat} (hk : k ≤ m.length) : (m ++ t).take k = m.take k := by
  rw [List.take_append_of_le_length hk]
/-- behind a call: what it made is forgotten -/
theorem HR.cut {c : Nat} {m' : List Addr} {F' H' : Hp} {h' : Hq} (r : HR K (c :: B) m' F' h' H') (ml : MLe m m') (hc : c = m.length) (hB : ∀ d ∈ B, d ≤ c) : HR K B m F' (h'.take c) H' := by
  obtain ⟨t, rfl⟩ := ml.pre
  obtain ⟨c1, c2⟩ := r.clo c List.mem_cons_self
  have hl : (h'.take c).length = c := by rw [List.length_take]; omega
  refine ⟨by rw [hl, hc], (List.nodup_append.mp r.nd).1, fun n o a e ea => ?_, r.sub, fun a ha => r.there a (List.mem_append_left _ ha), fun d hd => ?_⟩
  · have hn : n < c := by rw [← hl]; exact (List.getElem?_eq_some_iff.mp e).1
    rw [List.getElem?_take_of_lt hn] at e
    have q := r.ob n o a e (by rw [List.getElem?_append_left (by omega)]; exact ea)
    cases o with
    | lst xs => exact q
    | lsw ws =>
      obtain ⟨f, vs, eH, d⟩ := q
      refine ⟨f, vs, eH, ?_⟩
      have hk : ∀ k ∈ refs (.lsw ws), k < c := fun k hk => c2 n _ k hn e hk
      clear e eH
      induction d with
      | nil => exact .nil
      | cons d1 d2 ih =>
        rename_i w ws'
        refine .cons ?_ (ih fun k hk' => hk k (by simp only [refs, List.flatMap_cons, List.mem_append]; exact .inr hk'))
        cases w with
        | d x => exact d1
        | l j =>
          obtain ⟨b, eb, rfl⟩ := d1
          have hj : j < c := hk j (by simp [refs, refsW])
          rw [List.getElem?_append_left (by omega)] at eb
          exact ⟨b, eb, rfl⟩
        | x _ _ => exact d1.elim
    | dct _ => exact q
    | dki _ => exact q
    | dead => trivial
  · obtain ⟨h1, h2⟩ := r.clo d (List.mem_cons_of_mem _ hd)
    have hdc := hB d hd
    refine ⟨by rw [hl]; exact hdc, fun n o k hn e hk => ?_⟩
    rw [List.getElem?_take_of_lt (by omega)] at e
    exact h2 n o k hn e hk
end
end
end Ev

/-! EvCm: a list or a tuple, so many times. -/
namespace L2
open PySem PySem.Spec PyProof.Rows
theorem lmulG (l : Addr) (its : Array Value) (n : Nat) (dd : Option Addr) (sl : Array (Option Value)) (k : Int) (t : Tok) (h0 : ¬(!Builtin.List.listFitsIndex k) = true) (h1 : ¬its.size * k.toNat > (2 ^ 63 - 1) / 8) (h2 : ¬Builtin.List.listTooLong (its.size * k.toNat) = true)
    (size : (List.foldl (fun a b => a ++ b) #[] (List.replicate (if its.isEmpty = true then 0 else k.toNat) its)).size ≤ sizeLine) :
    Meets (Builtin.«list.__mul__» ⟨[.ref l, .int k t], []⟩) (fun _ R z => z.heap.get? l = some { cls := .type "list", dict := dd, data := .seq its n, slots := sl } ∧
      R (.ok (.ret (Value.ref z.heap.objs.size))) { z with heap := z.heap.push { cls := Value.type "list", data := Data.seq (List.foldl (fun a b => a ++ b) #[] (List.replicate (if its.isEmpty = true then 0 else k.toNat) its)) }, toks := z.toks }) :=
  .of_wp fun prog w A R z hz => by
    obtain ⟨hp, gg, dg, tk, os⟩ := z
    obtain ⟨hg, hz⟩ := hz
    wp_walk using wpAny_loadPart' hg
    repeat (first
      | (refine wpAny_ite_false (decide_eq_false h0) ?_; wp_walk using wpAny_loadPart' hg)
      | (refine wpAny_ite_false (decide_eq_false h1) ?_; wp_walk using wpAny_loadPart' hg)
      | (refine wpAny_ite_false (decide_eq_false h2) ?_; wp_walk using wpAny_loadPart' hg)
      | (refine wpAny_ite_false (decide_eq_false (Nat.not_lt.mpr size)) ?_; wp_walk using wpAny_loadPart' hg))
    exact ⟨_, rfl, hz⟩
theorem irmulG (k : Int) (t : Tok) (l : Addr) (its : Array Value) (n : Nat) (dd : Option Addr) (sl : Array (Option Value)) :
    Meets (Builtin.«int.__rmul__» ⟨[.int k t, .ref l], []⟩) (fun _ R z => z.heap.get? l = some { cls := .type "list", dict := dd, data := .seq its n, slots := sl } ∧ R (.ok (.ret Value.notImplemented)) z) :=
  .of_wp fun prog w A R z hz => by
    obtain ⟨hp, gg, dg, tk, os⟩ := z
    obtain ⟨hg, hz⟩ := hz
    wp_walk using wpAny_loadPart' hg
    exact ⟨_, rfl, hz⟩
/-- a tuple once, or an empty one: itself -/
theorem tmulG1 (l : Addr) (its : Array Value) (n : Nat) (dd : Option Addr) (sl : Array (Option Value)) (k : Int) (t : Tok) (c0 : (decide (k < -(2 ^ 63)) || decide (k ≥ 2 ^ 63)) = false) (c1 : (its.isEmpty || k == 1) = true) :
    Meets (Builtin.«tuple.__mul__» ⟨[.ref l, .int k t], []⟩) (fun _ R z => z.heap.get? l = some { cls := .type "tuple", dict := dd, data := .seq its n, slots := sl } ∧ R (.ok (.ret (Value.ref l))) z) :=
  .of_wp fun prog w A R z hz => by
    obtain ⟨hp, gg, dg, tk, os⟩ := z
    obtain ⟨hg, hz⟩ := hz
    wp_walk using wpAny_loadPart' hg
    repeat (first
      | (refine wpAny_ite_false (decide_eq_false (by rw [c0]; exact Bool.false_ne_true)) ?_; wp_walk using wpAny_loadPart' hg)
      | (refine wpAny_ite_true (decide_eq_true c1) ?_; wp_walk using wpAny_loadPart' hg))
    exact ⟨_, rfl, hz⟩
/-- a tuple not once: the empty one -/
theorem tmulG0 (l : Addr) (its : Array Value) (n : Nat) (dd : Option Addr) (sl : Array (Option Value)) (k : Int) (t : Tok) (c0 : (decide (k < -(2 ^ 63)) || decide (k ≥ 2 ^ 63)) = false) (c1 : (its.isEmpty || k == 1) = false) (c2 : (decide (k ≤ 0) || its.isEmpty) = true) :
    Meets (Builtin.«tuple.__mul__» ⟨[.ref l, .int k t], []⟩) (fun _ R z => z.heap.get? l = some { cls := .type "tuple", dict := dd, data := .seq its n, slots := sl } ∧ R (.ok (.ret (Value.ref z.heap.objs.size))) { z with heap := z.heap.push { cls := Value.type "tuple", data := Data.seq #[] }, toks := z.toks }) :=
  .of_wp fun prog w A R z hz => by
    obtain ⟨hp, gg, dg, tk, os⟩ := z
    obtain ⟨hg, hz⟩ := hz
    wp_walk using wpAny_loadPart' hg
    repeat (first
      | (refine wpAny_ite_false (decide_eq_false (by rw [c0]; exact Bool.false_ne_true)) ?_; wp_walk using wpAny_loadPart' hg)
      | (refine wpAny_ite_false (decide_eq_false (by rw [c1]; exact Bool.false_ne_true)) ?_; wp_walk using wpAny_loadPart' hg)
      | (refine wpAny_ite_true (decide_eq_true c2) ?_; wp_walk using wpAny_loadPart' hg))
    exact ⟨_, rfl, hz⟩
section
variable {X : Cx}
theorem fold_flat (its : List Value) (m : Nat) : (List.foldl (fun a b => a ++ b) #[] (List.replicate m its.toArray)) = (List.replicate m its).flatten.toArray := by
  have q := foldl_rep its m []
  rw [List.nil_append] at q
  exact q
theorem op_repL : OpR X (binaryOp .Mult) (fun x y H Q => ∃ l k xs, x = .ref l ∧ y = .int k ∧ SqL X.K H l xs ∧ -(2 ^ 63) ≤ k ∧ k < 2 ^ 63 ∧ xs.length * k.toNat ≤ sizeLine ∧
    ∀ p, H p = none → Q (.ref p) (upd H p (.lst (List.replicate k.toNat xs).flatten))) := by
  intro pins s σ H x y v u Q I rx ry hq
  obtain ⟨l, k, xs, rfl, rfl, sq, k1, k2, room, q⟩ := hq
  cases rx
  obtain ⟨t, rfl⟩ := ry
  obtain ⟨its, r, ⟨⟨cls, dd, data, sl⟩, n, ho, hc, _, hd⟩, _⟩ := I.list sq
  simp only at hc hd
  subst hc hd
  have many : its.toArray.size * k.toNat ≤ sizeLine := by rw [List.size_toArray, ← r.length]; exact room
  have a1 : ¬ its.toArray.size * k.toNat > (2 ^ 63 - 1) / 8 := by
    have : (sizeLine : Nat) ≤ (2 ^ 63 - 1) / 8 := by decide
    omega
  have a2 : ¬ (!Builtin.List.listFitsIndex k) = true := by
    rw [fitsIndex_both k1 k2]
    exact Bool.false_ne_true
  have a3 : ¬ Builtin.List.listTooLong (its.toArray.size * k.toNat) = true := by
    rw [notLongL many]
    exact Bool.false_ne_true
  have flat : List.foldl (fun a b => a ++ b) #[] (List.replicate (if its.toArray.isEmpty = true then 0 else k.toNat) its.toArray) = (List.replicate k.toNat its).flatten.toArray := by
    rw [fold_flat]
    cases its with
    | nil => simp
    | cons c cs => rw [if_neg (by simp)]
  have len : (List.replicate k.toNat its).flatten.length ≤ sizeLine := by
    rw [PyProof.Rows.lm_len_rep_flat, Nat.mul_comm]
    rw [List.size_toArray] at many
    exact many
  refine wpAny_binaryOp_repeat_ref (T := "list") (U := "int") (by decide) ⟨_, ho, rfl⟩ (fun z => typeIs_int z k t) noFill_list_mul PySem.F.fills_int_mul PySem.F.slot_int_rmul repeat_list PySem.F.slot_int_index.lookup
    (call_meets PySem.F.slot_int_rmul (typeIs_int s k t) PySem.F.entry_int_rmul (PySem.F.args_int_rmul_2 _ _) (irmulG k t l its.toArray n dd sl)
      ⟨ho, rfl, ⟨_, ho, rfl⟩, call_meets PySem.F.slot_list_mul ⟨_, ho, rfl⟩ PySem.F.entry_list_mul (PySem.F.args_list_mul_2 _ _) (lmulG l its.toArray n dd sl k t a2 a1 a3 (by rw [flat, List.size_toArray]; exact len)) ⟨ho, ?_⟩⟩)
  rw [flat]
  exact ⟨.ref _, _, I.lnew (t' := s.toks) (r.rep k.toNat) (by rw [PyProof.Rows.lm_len_rep_flat, Nat.mul_comm]; exact room), rfl, q _ I.fresh⟩
/-- a tuple so many times, whatever the number -/
theorem op_repTA : OpR X (binaryOp .Mult) (fun x y H Q => ∃ l k xs, x = .ref l ∧ y = .int k ∧ SqT X.K H l xs ∧ -(2 ^ 62) ≤ k ∧ k ≤ 1000 ∧ xs.length ≤ 1000 ∧ (xs = [] ∨ k = 1 → Q (.ref l) H) ∧
    (¬ (xs = [] ∨ k = 1) → ∀ p, H p = none → Q (.ref p) (upd H p (.tup (List.replicate k.toNat xs).flatten)))) := by
  intro pins s σ H x y v u Q I rx ry hq
  obtain ⟨l, k, xs, rfl, rfl, sq, k0, k1, room, q1, q2⟩ := hq
  by_cases big : 2 ≤ k ∧ xs ≠ []
  · exact op_repT pins s σ H _ _ v u Q I rx ry ⟨l, k, xs, rfl, rfl, sq, big.2, big.1, k1, room, q2 (by rintro (z | z); exact big.2 z; omega)⟩
  cases rx
  obtain ⟨t, rfl⟩ := ry
  obtain ⟨its, r, ⟨⟨cls, dd, data, sl⟩, ho, hc, n, hd⟩, _⟩ := I.tuple sq
  simp only at hc hd
  subst hc hd
  have z0 : (decide (k < -(2 ^ 63)) || decide (k ≥ 2 ^ 63)) = false := by
    rw [decide_eq_false (by omega), decide_eq_false (by omega)] <;> rfl
  have ie : its.toArray.isEmpty = true ↔ xs = [] := by
    have := r.length
    cases its with
    | nil => cases r; simp
    | cons c cs => cases r; simp
  by_cases one : xs = [] ∨ k = 1
  · have z1 : (its.toArray.isEmpty || k == 1) = true := by
      rw [Bool.or_eq_true, ie]
      exact one.imp id fun e => by simp [e]
    refine wpAny_binaryOp_repeat_ref (T := "tuple") (U := "int") (by decide) ⟨_, ho, rfl⟩ (fun z => typeIs_int z k t) noFill_tuple_mul PySem.F.fills_int_mul PySem.F.slot_int_rmul repeat_tuple PySem.F.slot_int_index.lookup
      (call_meets PySem.F.slot_int_rmul (typeIs_int s k t) PySem.F.entry_int_rmul (PySem.F.args_int_rmul_2 _ _) (int_rmul_tuple k t l its.toArray n dd sl)
        ⟨ho, rfl, ⟨_, ho, rfl⟩, call_meets PySem.F.slot_tuple_mul ⟨_, ho, rfl⟩ PySem.F.entry_tuple_mul (PySem.F.args_tuple_mul_2 _ _) (tmulG1 l its.toArray n dd sl k t z0 z1) ⟨ho, ?_⟩⟩)
    exact ⟨.ref l, H, I, rfl, q1 one⟩
  · have ne : ¬ xs = [] := fun z => one (.inl z)
    have kl : k ≤ 0 := by
      have h1 : ¬ k = 1 := fun z => one (.inr z)
      have h2 : ¬ 2 ≤ k := fun z => big ⟨z, ne⟩
      omega
    have ie2 : its.toArray.isEmpty = false := by
      cases q : its.toArray.isEmpty with
      | false => rfl
      | true => exact absurd (ie.mp q) ne
    have z1 : (its.toArray.isEmpty || k == 1) = false := by
      rw [ie2, Bool.false_or]
      exact beq_eq_false_iff_ne.mpr (by omega)
    have z2 : (decide (k ≤ 0) || its.toArray.isEmpty) = true := by rw [decide_eq_true kl]; rfl
    refine wpAny_binaryOp_repeat_ref (T := "tuple") (U := "int") (by decide) ⟨_, ho, rfl⟩ (fun z => typeIs_int z k t) noFill_tuple_mul PySem.F.fills_int_mul PySem.F.slot_int_rmul repeat_tuple PySem.F.slot_int_index.lookup
      (call_meets PySem.F.slot_int_rmul (typeIs_int s k t) PySem.F.entry_int_rmul (PySem.F.args_int_rmul_2 _ _) (int_rmul_tuple k t l its.toArray n dd sl)
        ⟨ho, rfl, ⟨_, ho, rfl⟩, call_meets PySem.F.slot_tuple_mul ⟨_, ho, rfl⟩ PySem.F.entry_tuple_mul (PySem.F.args_tuple_mul_2 _ _) (tmulG0 l its.toArray n dd sl k t z0 z1 z2) ⟨ho, ?_⟩⟩)
    have e0 : (List.replicate k.toNat xs).flatten = [] := by
      have : k.toNat = 0 := by omega
      rw [this]; rfl
    have q3 := q2 one s.heap.objs.size (I.hok.fresh (Nat.le_refl _))
    rw [e0] at q3
    refine ⟨.ref s.heap.objs.size, _, I.laid (t' := s.toks) (o := .tup []) (fun b ob q => Heap.get?_push_of_some _ q) (Nat.le_refl _) ?_, rfl, q3⟩
    exact ⟨by simp, [], .nil, IsTup.new _ _⟩
end
end L2

/-! EvC: the operators: what the layer asks of a value is what the evaluator gives. -/
namespace Ev
open PySem PySem.Spec L2

/-- what is told of an exception: its number, its data; its class, its dict, in F and the heap -/
abbrev XRel := Nat → List PyData → Value → Option Addr → Hp → Hp → Prop

section
variable {K : PySem.W.Frag} {xr : XRel} [Wd]
/-- what must hold behind something that ends as r -/
def PostG (K : PySem.W.Frag) (xr : XRel) {α : Type} (B : BB) (Wx : WX) (m : List Addr) (F : Hp) (env : Vars) (σ : L2.St) (H : Hp) (r : R α) (P : α → Hq → List Addr → Hp → Hp → Prop) : Prop := match r with
  | .ok a h' => ∀ m' F' H', Ext m F H m' F' H' → SR K B m' F' env h' σ H' → P a h' m' F' H'
  | .ex c ds h' => ∀ m' F' H' cls dx, Ext m F H m' F' H' → HR K B.c m' F' h' H' → xr c ds cls dx F' H' → Wx cls dx σ H'
  | .bad => False
/-- .. where a value is asked for -/
def PV (K : PySem.W.Frag) (Q : VK) : W → Hq → List Addr → Hp → Hp → Prop := fun w _ m' F' H' => ∀ v, WR K m' F' v w → Q v H'
abbrev PostE (K : PySem.W.Frag) (xr : XRel) (B : BB) (Wx : WX) (m : List Addr) (F : Hp) (env : Vars) (σ : L2.St) (H : Hp) (r : R W) (Q : VK) : Prop := PostG K xr B Wx m F env σ H r (PV K Q)

/-- an expression's reading by its value -/
def tE (K : PySem.W.Frag) (xr : XRel) (B : BB) (Wx : WX) (f : Vars → Hq → R W) : TE := fun σ H Q => ∃ m F env h, SR K B m F env h σ H ∧ PostE K xr B Wx m F env σ H (f env h) Q
def tA (K : PySem.W.Frag) (xr : XRel) (B : BB) (Wx : WX) (f : Vars → Hq → R (List W)) : TA := fun σ H Q => ∃ m F env h, SR K B m F env h σ H ∧ PostG K xr B Wx m F env σ H (f env h) (fun ws _ m' F' H' => ∀ vs, WRs K m' F' vs ws → Q vs H')
def tT (K : PySem.W.Frag) (xr : XRel) (B : BB) (Wx : WX) (f : Vars → Hq → R W) : TT := fun σ H Q => ∃ m F env h, SR K B m F env h σ H ∧ PostG K xr B Wx m F env σ H (f env h) (fun w _ _ _ H' => ∃ k, w = .d (.bool k) ∧ Q k H')

section
variable {B : BB} {Wx : WX} {m : List Addr} {F H : Hp} {env : Vars} {h : Hq} {σ : L2.St} {Q : VK} {α β : Type}
theorem PostG.mono {r : R α} {P P' : α → Hq → List Addr → Hp → Hp → Prop} (p : PostG K xr B Wx m F env σ H r P) (i : ∀ a h1 m1 F1 H1, Ext m F H m1 F1 H1 → SR K B m1 F1 env h1 σ H1 → P a h1 m1 F1 H1 → P' a h1 m1 F1 H1) : PostG K xr B Wx m F env σ H r P' := by
  cases r with
  | ok a h' => exact fun m' F' H' e s => i a h' m' F' H' e s (p m' F' H' e s)
  | ex c ds h' => exact p
  | bad => exact p
theorem PostG.bind {r : R α} {f : α → Hq → R β} {P : β → Hq → List Addr → Hp → Hp → Prop} (p : PostG K xr B Wx m F env σ H (r.bind f) P) :
    PostG K xr B Wx m F env σ H r (fun a h1 m1 F1 H1 => PostG K xr B Wx m1 F1 env σ H1 (f a h1) P) := by
  cases r with
  | ok a h1 =>
    intro m1 F1 H1 e1 s1
    have p : PostG K xr B Wx m F env σ H (f a h1) P := p
    show PostG K xr B Wx m1 F1 env σ H1 (f a h1) P
    cases q : f a h1 with
    | ok b h2 =>
      rw [q] at p
      exact fun m2 F2 H2 e2 s2 => p m2 F2 H2 (e1.trans e2) s2
    | ex c ds h2 =>
      rw [q] at p
      exact fun m2 F2 H2 cls dx e2 s2 x => p m2 F2 H2 cls dx (e1.trans e2) s2 x
    | bad => rw [q] at p; exact p
  | ex c ds h1 => exact p
  | bad => exact p
theorem PostE.now {w : W} {v : V} (p : PostE K xr B Wx m F env σ H (.ok w h) Q) (s : SR K B m F env h σ H) (r : WR K m F v w) : Q v H := p m F H (.refl ..) s v r

theorem SR.newF (s : SR K B m F env h σ H) {u : HO} {p : Addr} (hp : H p = none) : SR K B m (upd F p u) env h σ (upd H p u) ∧ Ext m F H m (upd F p u) (upd H p u) := by
  obtain ⟨r, e⟩ := s.hr.newF (u := u) hp
  exact ⟨⟨r, s.el, fun i w z q => let ⟨v, h1, h2⟩ := s.var i w z q; ⟨v, h1, wr_mono e.ml e.sub h2⟩, fun x hx => let ⟨h1, h2, h3⟩ := s.exv x hx; ⟨h1, h2, x.mono _ _ e.sub h3⟩⟩, e⟩
theorem SR.ext (s : SR K B m F env h σ H) {m' : List Addr} {F' H' : Hp} {h' : Hq} (r : HR K B.c m' F' h' H') (e : Ext m F H m' F' H') : SR K B m' F' env h' σ H' :=
  ⟨r, s.el, fun i w z q => let ⟨v, h1, h2⟩ := s.var i w z q; ⟨v, h1, wr_mono e.ml e.sub h2⟩, fun x hx => let ⟨h1, h2, h3⟩ := s.exv x hx; ⟨h1, h2, x.mono _ _ e.sub h3⟩⟩
theorem PostE.newF {d : PyData} {u : HO} {p : Addr} (q : PostE K xr B Wx m F env σ H (.ok (.d d) h) Q) (s : SR K B m F env h σ H) (hp : H p = none) (r : Dp K (upd F p u) (.ref p) d) : Q (.ref p) (upd H p u) := by
  obtain ⟨s', e⟩ := s.newF (u := u) hp
  exact q _ _ _ e s' _ r
theorem PostE.newL {o : Ob} {u : HO} {p : Addr} (q : PostE K xr B Wx m F env σ H (.ok (.l h.length) (h ++ [o])) Q) (s : SR K B m F env h σ H) (hp : H p = none) (ho : OR K (m ++ [p]) F (upd H p u) p o) : Q (.ref p) (upd H p u) := by
  obtain ⟨r, e⟩ := s.hr.newL hp ho (fun _ _ _ => trivial)
  exact q _ _ _ e (s.ext r e) _ ⟨p, by rw [← s.hr.len]; simp, rfl⟩

theorem sq_new {p : Addr} {xs : List V} : SqL K (upd F p (.lst xs)) p xs := .inl (.inl upd_same)
theorem st_new {p : Addr} {xs : List V} : SqT K (upd F p (.tup xs)) p xs := .inl (.inl upd_same)
theorem dp_newL {p : Addr} {vs : List V} {ds : List PyData} (s : HR K B.c m F h H) (hp : H p = none) (d : DpAll K F vs ds) : Dp K (upd F p (.lst vs)) (.ref p) (.list ds) :=
  .lst sq_new (dps_mono (.upd (s.freeF hp)) _ _ d)
theorem dp_newT {p : Addr} {vs : List V} {ds : List PyData} (s : HR K B.c m F h H) (hp : H p = none) (d : DpAll K F vs ds) : Dp K (upd F p (.tup vs)) (.ref p) (.tuple ds) :=
  .tup st_new (dps_mono (.upd (s.freeF hp)) _ _ d)

/-- a value, read now -/
inductive Now (K : PySem.W.Frag) (F H : Hp) : V → PyData → Prop
  | now {v : V} {d : PyData} : Dp K F v d → Now K F H v d
  | lst {a : Addr} {vs : List V} {ds : List PyData} : H a = some (.lst vs) → DpAll K F vs ds → Now K F H (.ref a) (.list ds)
theorem now_of (s : HR K B.c m F h H) {w : W} {v : V} {d : PyData} (r : WR K m F v w) (e : toD h w = some d) : Now K F H v d := by
  cases w with
  | x _ _ => exact r.elim
  | d x => simp only [toD, Option.some.injEq] at e; subst e; exact .now r
  | l n =>
    obtain ⟨a, em, rfl⟩ := r
    simp only [toD] at e
    split at e
    · rename_i xs eo
      cases e
      obtain ⟨f, vs, eH, dd⟩ := s.ob n _ a eo em
      exact .lst eH dd
    · cases e
theorem toDn_dp (s : HR K B.c m F h H) : ∀ (k : Nat) {w : W} {v : V} {d : PyData}, WR K m F v w → toDn k h w = some d → Dp K H v d
  | _, .d x, v, d, r, e => by
    have e : some x = some d := by cases ‹Nat› <;> exact e
    cases e
    exact dp_mono s.sub _ _ r
  | _, .x _ _, v, d, r, e => r.elim
  | 0, .l n, v, d, r, e => by simp [toDn] at e
  | k + 1, .l n, v, d, r, e => by
    obtain ⟨a, em, rfl⟩ := r
    simp only [toDn] at e
    split at e
    · rename_i xs eo
      cases e
      obtain ⟨f, vs, eH, dd⟩ := s.ob n _ a eo em
      exact .lst (.of eH) (dps_mono s.sub _ _ dd)
    · rename_i ws eo
      obtain ⟨f, vs, eH, dd⟩ := s.ob n _ a eo em
      rw [Option.map_eq_some_iff] at e
      obtain ⟨ds, e, rfl⟩ := e
      refine .lst (.of eH) ?_
      clear eH eo
      induction dd generalizing ds with
      | nil => simp [allO] at e; subst e; exact .nil
      | cons h1 h2 ih =>
        rename_i w ws
        rw [List.map_cons] at e
        cases q : toDn k h w with
        | none => rw [q] at e; cases e
        | some x =>
          rw [q] at e
          simp only [allO, Option.map_eq_some_iff] at e
          obtain ⟨ds, e, rfl⟩ := e
          exact .cons (toDn_dp s k h1 q) (ih ds e)
    · cases e
theorem toDD_dp (s : HR K B.c m F h H) {w : W} {v : V} {d : PyData} (r : WR K m F v w) (e : toDD h w = some d) : Dp K H v d := toDn_dp s 3 r e
theorem Now.dp {v : V} {d : PyData} (n : Now K F H v d) (le : HpLe F H) : Dp K H v d := by
  cases n with
  | now r => exact dp_mono le _ _ r
  | lst e r => exact .lst (.of e) (dps_mono le _ _ r)
theorem Now.list {v : V} {ds : List PyData} (n : Now K F H v (.list ds)) (le : HpLe F H) : ∃ a vs, v = .ref a ∧ SqL K H a vs ∧ DpAll K F vs ds := by
  cases n with
  | now r =>
    cases r with
    | lst h1 h2 => exact ⟨_, _, rfl, le.sql h1, h2⟩
  | lst e r => exact ⟨_, _, rfl, .of e, r⟩
theorem Now.tuple {v : V} {ds : List PyData} (n : Now K F H v (.tuple ds)) (le : HpLe F H) : ∃ a vs, v = .ref a ∧ SqT K H a vs ∧ DpAll K F vs ds ∧ Dp K F v (.tuple ds) := by
  cases n with
  | now r =>
    have r' := r
    cases r with
    | tup h1 h2 => exact ⟨_, _, rfl, le.sqt h1, h2, r'⟩
theorem Now.int {v : V} {i : Int} (n : Now K F H v (.int i)) : v = .int i := by
  cases n with
  | now r => cases r; rfl
theorem Now.str {v : V} {i : Str} (n : Now K F H v (.str i)) : v = .str i := by
  cases n with
  | now r => cases r; rfl
end

/-! ### operators -/
theorem sOk_ok {i j : Int} (h : sOk i j = true) : CMul i j := by unfold sOk at h; simpa [CMul] using h
theorem divOk_ok {j : Int} (h : divOk j = true) : j ≠ 0 ∧ j.natAbs < 1073741824 := by unfold divOk at h; exact of_decide_eq_true h
theorem repOk_ok {n : Nat} {k : Int} (h : repOk n k = true) : -(2 ^ 62) ≤ k ∧ k < 2 ^ 62 ∧ n * k.toNat ≤ SZ := by unfold repOk at h; exact of_decide_eq_true h
theorem repTOk_ok {n : Nat} {k : Int} (h : repTOk n k = true) : n ≤ 1000 ∧ -(2 ^ 62) ≤ k ∧ k ≤ 1000 := by unfold repTOk at h; exact of_decide_eq_true h
theorem powOk_ok {i j : Int} (h : powOk i j = true) : 0 ≤ j ∧ j ≤ 1000000 ∧ i.natAbs < 2 ^ 64 := by unfold powOk at h; exact of_decide_eq_true h
section
variable {X : Cx} {B : BB} {Wx : WX}
theorem op_catL : OpR X (binaryOp .Add) (fun x y H Q => ∃ l b xs zs, x = .ref l ∧ y = .ref b ∧ SqL X.K H l xs ∧ SqL X.K H b zs ∧ xs.length + zs.length ≤ sizeLine ∧ ∀ p, H p = none → Q (.ref p) (upd H p (.lst (xs ++ zs)))) := by
  intro pins s σ H x y v u Q I rx ry h
  obtain ⟨l, b, xs, zs, rfl, rfl, hH, hB, hz, q⟩ := h
  cases rx
  cases ry
  obtain ⟨its, r, ⟨⟨cls, dd, data, sl⟩, n, ho, hc, _, hd⟩, _⟩ := I.list hH
  obtain ⟨its2, r2, ⟨⟨cls2, dd2, data2, sl2⟩, n2, ho2, hc2, _, hd2⟩, _⟩ := I.list hB
  simp only at hc hd hc2 hd2
  subst hc hd hc2 hd2
  have e : its.toArray ++ its2.toArray = (its ++ its2).toArray := by simp
  refine concat_meets ⟨_, ho, rfl⟩ ⟨_, ho2, rfl⟩ noFill_list_add seq_list_add PySem.F.slot_list_add PySem.F.entry_list_add (PySem.F.args_list_add_2 _ _) (PyProof.Rows.list_addW l b its.toArray its2.toArray n n2 dd dd2 sl sl2 (by rw [List.size_toArray, List.size_toArray, ← r.length, ← r2.length]; exact hz)) ⟨ho, ho2, ?_⟩
  rw [e]
  exact ⟨.ref _, _, I.lnew (t' := s.toks) (r.append r2) (by rw [List.length_append]; omega), rfl, q _ I.fresh⟩

/-- the reading of an operator: as the evaluator says -/
def rOp (K : PySem.W.Frag) (xr : XRel) (B : BB) (Wx : WX) (f : W → W → Hq → R W) : R2 := fun x y H Q => ∃ m F env h σ v w, SR K B m F env h σ H ∧ WR K m F x v ∧ WR K m F y w ∧ PostE K xr B Wx m F env σ H (f v w h) Q

theorem op2_cases {f : PyData → PyData → Option PyData} {v w : W} {h : Hq} {m : List Addr} {F H : Hp} {env : Vars} {σ : L2.St} {Q : VK} (p : PostE K xr B Wx m F env σ H (op2 f v w h) Q) :
    ∃ d e r, toD h v = some d ∧ toD h w = some e ∧ f d e = some r ∧ PostE K xr B Wx m F env σ H (.ok (.d r) h) Q := by
  unfold op2 at p
  split at p
  · rename_i d e h1 h2
    unfold liftO at p
    split at p
    · rename_i r h3
      exact ⟨d, e, r, h1, h2, h3, p⟩
    · exact p.elim
  · exact p.elim
theorem sz_eq : (SZ : Nat) = sizeLine := by rw [PySem.sizeLine_eq]; rfl

theorem op_bin (o : Operator) : OpR X (binaryOp o) (rOp X.K xr B Wx (op2 (evBin o))) := by
  intro pins s σ H x y v u Q I rx ry hq
  obtain ⟨m, F, env, h, σ', w1, w2, S, r1, r2, p⟩ := hq
  obtain ⟨d, e, r, t1, t2, ev, p⟩ := op2_cases p
  have n1 := now_of S.hr r1 t1
  have n2 := now_of S.hr r2 t2
  have fin : ∀ {v : V}, Dp X.K F v r → Q v H := fun q => PostE.now p S q
  have szE := sz_eq
  cases o <;> cases d <;> cases e <;> simp only [evBin, reduceCtorEq] at ev
  -- int + int, str + str, list + list, tuple + tuple
  case Add.int.int i j => cases n1.int; cases n2.int; cases ev; exact op_add pins s σ H _ _ v u Q I rx ry ⟨i, j, rfl, rfl, fin (.int _)⟩
  case Add.str.str i j =>
    split at ev
    · cases n1.str; cases n2.str; cases ev
      exact op_add_str pins s σ H _ _ v u Q I rx ry ⟨i, j, rfl, rfl, by omega, fin (.str _)⟩
    · cases ev
  case Add.list.list i j =>
    split at ev
    · cases ev
      obtain ⟨a, vs, rfl, s1, d1⟩ := n1.list S.hr.sub
      obtain ⟨b, us, rfl, s2, d2⟩ := n2.list S.hr.sub
      have l1 := d1.length
      have l2 := d2.length
      exact op_catL pins s σ H _ _ v u Q I rx ry ⟨a, b, vs, us, rfl, rfl, s1, s2, by omega, fun q hq => PostE.newF p S hq (dp_newL S.hr hq (d1.app d2))⟩
    · cases ev
  case Add.tuple.tuple i j =>
    split at ev
    · cases ev
      obtain ⟨a, vs, rfl, s1, d1, e1⟩ := n1.tuple S.hr.sub
      obtain ⟨b, us, rfl, s2, d2, e2⟩ := n2.tuple S.hr.sub
      have l1 := d1.length
      have l2 := d2.length
      refine op_catA pins s σ H _ _ v u Q I rx ry ⟨a, b, vs, us, rfl, rfl, s1, s2, by omega, fun z => fin ?_, fun _ z => fin ?_, fun _ _ q hq => PostE.newF p S hq (dp_newT S.hr hq (d1.app d2))⟩
      · subst z
        cases d1
        simpa using e2
      · subst z
        cases d2
        simpa using e1
    · cases ev
  case Sub.int.int i j => cases n1.int; cases n2.int; cases ev; exact op_sub pins s σ H _ _ v u Q I rx ry ⟨i, j, rfl, rfl, fin (.int _)⟩
  case Mult.int.int i j =>
    split at ev
    · rename_i hc
      cases n1.int; cases n2.int; cases ev
      exact op_mul pins s σ H _ _ v u Q I rx ry ⟨i, j, rfl, rfl, sOk_ok hc, fin (.int _)⟩
    · cases ev
  case Mult.list.int i j =>
    split at ev
    · rename_i hc
      cases n2.int; cases ev
      obtain ⟨a, vs, rfl, s1, d1⟩ := n1.list S.hr.sub
      have hc := repOk_ok hc
      have l1 := d1.length
      exact op_repL pins s σ H _ _ v u Q I rx ry ⟨a, j, vs, rfl, rfl, s1, by omega, by omega, by rw [l1]; omega, fun q hq => PostE.newF p S hq (dp_newL S.hr hq (d1.rep _))⟩
    · cases ev
  case Mult.tuple.int i j =>
    split at ev
    · rename_i hc
      cases n2.int; cases ev
      obtain ⟨a, vs, rfl, s1, d1, e1⟩ := n1.tuple S.hr.sub
      have hc := repTOk_ok hc
      have l1 := d1.length
      refine op_repTA pins s σ H _ _ v u Q I rx ry ⟨a, j, vs, rfl, rfl, s1, hc.2.1, hc.2.2, by omega, fun z => fin ?_, fun z q hq => PostE.newF p S hq (dp_newT S.hr hq (d1.rep _))⟩
      rcases z with z | z
      · subst z
        have hi : i = [] := by cases d1; rfl
        subst hi
        have e0 : repL ([] : List PyData) j = [] := by unfold repL; simp
        rw [e0]; exact e1
      · subst z
        have e0 : repL i 1 = i := by unfold repL; simp
        rw [e0]; exact e1
    · cases ev
  case FloorDiv.int.int i j =>
    split at ev
    · rename_i hc
      cases n1.int; cases n2.int; cases ev
      exact op_fdivN pins s σ H _ _ v u Q I rx ry ⟨i, j, rfl, rfl, divOk_ok hc, fin (.int _)⟩
    · cases ev
  case Mod.int.int i j =>
    split at ev
    · rename_i hc
      cases n1.int; cases n2.int; cases ev
      exact op_modN pins s σ H _ _ v u Q I rx ry ⟨i, j, rfl, rfl, hc, fin (.int _)⟩
    · cases ev
  case Pow.int.int i j =>
    split at ev
    · rename_i hc
      cases n1.int; cases n2.int; cases ev
      exact op_pow pins s σ H _ _ v u Q I rx ry ⟨i, j, rfl, rfl, powOk_ok hc, fin (.int _)⟩
    · cases ev
  case LShift.int.int i j =>
    split at ev
    · rename_i hc
      cases n1.int; cases n2.int; cases ev
      exact op_shl pins s σ H _ _ v u Q I rx ry ⟨i, j, rfl, rfl, powOk_ok hc, fin (.int _)⟩
    · cases ev

end
/-! ### dicts -/
mutual
theorem nkey_is {h : Heap} : ∀ (d : PyData) (v : Value) (as : List Addr) (k : NestedKey), Reads h v d as → nkey d = some k → NestedIs h k v
  | .none, _, _, _, r, e => by cases r; simp only [nkey, Option.some.injEq] at e; subst e; exact .none
  | .bool b, _, _, _, r, e => by cases r; simp only [nkey, Option.some.injEq] at e; subst e; exact .bool rfl
  | .int i, _, _, _, r, e => by cases r; simp only [nkey, Option.some.injEq] at e; subst e; exact .int _ _
  | .str x, _, _, _, r, e => by cases r; simp only [nkey, Option.some.injEq] at e; subst e; exact .text _ _
  | .tuple xs, _, _, _, r, e => by
    cases r with
    | tuple h1 h2 h3 h4 =>
      simp only [nkey, Option.map_eq_some_iff] at e
      obtain ⟨ks, e, rfl⟩ := e
      exact .tup h1 h2 h3 (nkeys_is _ _ _ _ h4 e)
  | .list _, _, _, _, _, e => by simp [nkey] at e
  | .dict _, _, _, _, _, e => by simp [nkey] at e
theorem nkeys_is {h : Heap} : ∀ (ds : List PyData) (vs : List Value) (as : List Addr) (ks : List NestedKey), ReadsAll h vs ds as → nkeys ds = some ks → NestedAll h ks vs
  | [], _, _, _, r, e => by cases r; simp only [nkeys, Option.some.injEq] at e; subst e; exact .nil
  | d :: ds, _, _, _, r, e => by
    cases r with
    | cons h1 h2 =>
      simp only [nkeys] at e
      split at e
      · rename_i k ks e1 e2
        cases e
        exact .cons (nkey_is _ _ _ _ h1 e1) (nkeys_is _ _ _ _ h2 e2)
      · cases e
end
mutual
theorem nkey_depth : ∀ (d : PyData) (k : NestedKey), nkey d = some k → k.depth = d.depth
  | .none, _, e => by simp only [nkey, Option.some.injEq] at e; subst e; rfl
  | .bool b, _, e => by simp only [nkey, Option.some.injEq] at e; subst e; rfl
  | .int i, _, e => by simp only [nkey, Option.some.injEq] at e; subst e; rfl
  | .str x, _, e => by simp only [nkey, Option.some.injEq] at e; subst e; rfl
  | .tuple xs, _, e => by
    simp only [nkey, Option.map_eq_some_iff] at e
    obtain ⟨ks, e, rfl⟩ := e
    simp only [NestedKey.depth, PyData.depth, nkeys_depth _ _ e]
  | .list _, _, e => by simp [nkey] at e
  | .dict _, _, e => by simp [nkey] at e
theorem nkeys_depth : ∀ (ds : List PyData) (ks : List NestedKey), nkeys ds = some ks → NestedKey.depthAll ks = PyData.depthAll ds
  | [], _, e => by simp only [nkeys, Option.some.injEq] at e; subst e; rfl
  | d :: ds, _, e => by
    simp only [nkeys] at e
    split at e
    · rename_i k ks e1 e2
      cases e
      simp only [NestedKey.depthAll, PyData.depthAll, nkey_depth _ _ e1, nkeys_depth _ _ e2]
    · cases e
end
theorem isKey_ok {d : PyData} (h : isKey d = true) : ∃ xs k, d = .tuple xs ∧ nkey d = some k ∧ d.depth ≤ 8 := by
  cases d <;> simp only [isKey, Bool.false_eq_true] at h
  rename_i xs
  simp only [Bool.and_eq_true, decide_eq_true_eq, Option.isSome_iff_exists] at h
  obtain ⟨⟨k, e⟩, hd⟩ := h
  exact ⟨xs, k, rfl, e, hd⟩
section
variable {K : PySem.W.Frag} {F : Hp}
theorem DK.get {kvs : List (PyData × PyData)} {es : List (NestedKey × Addr × Value)} (h : DK K F kvs es) {d : PyData} {k : NestedKey} (e : nkey d = some k) :
    match dget kvs d with
    | some x => ∃ p v, atKey es k = some p ∧ RelV v p.2 ∧ Dp K F v x
    | none => atKey es k = none := by
  induction h with
  | nil => simp [dget, atKey]
  | cons h1 h2 h3 h4 h5 h6 ih =>
    rename_i d' x r k' a u v s
    have ek : keyEq d' d = decide (k' = k) := by
      unfold keyEq
      rw [h1, e]
      simp
    by_cases hk : k' = k
    · subst hk
      have e1 : dget ((d', x) :: r) d = some x := by simp [dget, ek]
      have e2 : atKey ((k', a, u) :: s) k' = some (a, u) := by simp [atKey]
      rw [e1]
      exact ⟨_, v, e2, h4, h5⟩
    · have e1 : dget ((d', x) :: r) d = dget r d := by simp [dget, ek, hk]
      have e2 : atKey ((k', a, u) :: s) k = atKey s k := by simp [atKey, hk]
      rw [e1, e2]
      exact ih
theorem DK.put {kvs : List (PyData × PyData)} {es : List (NestedKey × Addr × Value)} (h : DK K F kvs es) {d y : PyData} {k : NestedKey} {b : Addr} {z : V} {u : Value} (e : nkey d = some k) (hd : d.depth ≤ 8) (hb : Dp K F (.ref b) d) (r : RelV z u) (ry : Dp K F z y) :
    DK K F (dput kvs d y) (storedH es k b u) := by
  have g := h.get e
  have hm : ∀ {kvs : List (PyData × PyData)} {es : List (NestedKey × Addr × Value)}, DK K F kvs es → DK K F (kvs.map fun p => if keyEq p.1 d then (p.1, y) else p) (es.map (putAt k u)) := by
    intro kvs es h
    induction h with
    | nil => exact .nil
    | cons h1 h2 h3 h4 h5 h6 ih =>
      rename_i d' x r' k' a u' v s
      have ek : keyEq d' d = decide (k' = k) := by
        unfold keyEq
        rw [h1, e]
        simp
      rw [List.map_cons, List.map_cons]
      by_cases hk : k' = k
      · have e1 : (if keyEq d' d = true then (d', y) else (d', x)) = (d', y) := by simp [ek, hk]
        have e2 : putAt k u (k', a, u') = (k', a, u) := by simp [putAt, hk]
        show DK K F ((if keyEq d' d = true then (d', y) else (d', x)) :: _) (putAt k u (k', a, u') :: _)
        rw [e1, e2]
        exact .cons h1 h2 h3 r ry ih
      · have e1 : (if keyEq d' d = true then (d', y) else (d', x)) = (d', x) := by simp [ek, hk]
        have e2 : putAt k u (k', a, u') = (k', a, u') := by simp [putAt, hk]
        show DK K F ((if keyEq d' d = true then (d', y) else (d', x)) :: _) (putAt k u (k', a, u') :: _)
        rw [e1, e2]
        exact .cons h1 h2 h3 h4 h5 ih
  have ha : ∀ {kvs : List (PyData × PyData)} {es : List (NestedKey × Addr × Value)}, DK K F kvs es → DK K F (kvs ++ [(d, y)]) (es ++ [(k, b, u)]) := by
    intro kvs es h
    induction h with
    | nil => exact .cons e hb hd r ry .nil
    | cons h1 h2 h3 h4 h5 h6 ih => exact .cons h1 h2 h3 h4 h5 ih
  unfold dput
  cases q : dget kvs d with
  | some x =>
    rw [q] at g
    obtain ⟨p, v, e1, _⟩ := g
    rw [storedH_old e1, Option.isSome_some, if_pos rfl]
    exact hm h
  | none =>
    rw [q] at g
    rw [storedH_new g, Option.isSome_none, if_neg (by simp)]
    exact ha h
theorem DK.keys {kvs : List (PyData × PyData)} {es : List (NestedKey × Addr × Value)} (h : DK K F kvs es) : ∀ x ∈ es, ∃ d, nkey d = some x.1 ∧ Dp K F (.ref x.2.1) d ∧ d.depth ≤ 8 := by
  induction h with
  | nil => intro x hx; simp at hx
  | cons h1 h2 h3 h4 h5 h6 ih =>
    intro x hx
    rcases List.mem_cons.mp hx with e | hx
    · subst e; exact ⟨_, h1, h2, h3⟩
    · exact ih x hx
end
section
variable {X : Cx} {pins : List (Addr × Obj)} {σ : L2.St} {F H : Hp} {s : Shared} {a : Addr} {A : Around} {E : Value → Shared → Prop} {kvs : List (PyData × PyData)} {es : List (NestedKey × Addr × Value)}
theorem dk_is (I : Inv X pins σ H s) (le : HpLe F H) {d : PyData} {k : NestedKey} {b : Addr} (e : nkey d = some k) (hd : d.depth ≤ 8) (r : Dp X.K F (.ref b) d) : (nestedKind X.prog X.w).is s.heap k b := by
  obtain ⟨as, q⟩ := Dp.reads I d (.ref b) (.ref b) (dp_mono le _ _ r) rfl
  exact ⟨nkey_is _ _ _ _ q e, by rw [nkey_depth _ _ e]; exact hd⟩
/-- the dict's object, as the library tells it -/
theorem dk_of (hw : X.w = Wd.w) (I : Inv X pins σ H s) (le : HpLe F H) (e : H a = some (dctO a es)) (d : DK X.K F kvs es) (nd : (es.map (·.1)).Nodup) : s.heap.DictOfH (nestedKind X.prog X.w) a es := by
  have ok : ObjOk X.prog X.w H s.heap a (dctO a es) := I.hok a _ e
  obtain ⟨⟨o, es', ep, h1, h2, h3, h4⟩, _, _⟩ := ok
  refine ⟨o, es', ep, h1, h2, h3, ?_, fun x hx => ?_, nd⟩
  · rw [h4, ← hw]; rfl
  · obtain ⟨d, e1, e2, e3⟩ := d.keys x hx
    exact dk_is I le e1 e3 e2
theorem dk_ok (hw : X.w = Wd.w) {h' : Heap} {es : List (NestedKey × Addr × Value)} {H' : Hp} (d : h'.DictOfH (nestedKind X.prog X.w) a es) : ObjOk X.prog X.w H' h' a (dctO a es) := by
  obtain ⟨o, es', ep, h1, h2, h3, h4, _, _⟩ := d
  refine ⟨⟨o, es', ep, h1, h2, h3, ?_⟩, ⟨o, h1⟩, fun g1 g2 ⟨o, es', ep, k1, k2, k3, k4⟩ k => ⟨o, es', ep, k o k1, k2, k3, k4⟩⟩
  rw [h4, hw]; rfl
theorem dk_room (hu : X.A.units + 200 < cLine) : (nestedKind X.prog X.w).room X.A.in1 := by
  show X.A.units + 1 + 8 < cLine
  omega
theorem dk_in {Q : VK} (hw : X.w = Wd.w) (hu : X.A.units + 200 < cLine) (I : Inv X pins σ H s) (le : HpLe F H) (e : H a = some (dctO a es)) (d : DK X.K F kvs es) (nd : (es.map (·.1)).Nodup) (hs : (a == sysModules) = false) {y : PyData} {k : NestedKey} {b : Addr} (ek : nkey y = some k) (hd : y.depth ≤ 8) (r : Dp X.K F (.ref b) y)
    (q : Q (.bl (dget kvs y).isSome) H) : wpAny (model X.prog X.w) X.A (compareOp .In (.ref b) (.ref a)) (EP X pins σ Q) X.xe s := by
  refine wpAny_in_heap (dk_room hu) (dk_is I le ek hd r) hs (dk_of hw I le e d nd) ?_
  have g := d.get ek
  cases z : dget kvs y with
  | some x =>
    rw [z] at g q
    obtain ⟨p, v, e1, _⟩ := g
    rw [e1]
    exact ⟨.bl true, H, I.tok _, rfl, q⟩
  | none =>
    rw [z] at g q
    rw [g]
    exact ⟨.bl false, H, I.tok _, rfl, q⟩
theorem dk_notin {Q : VK} (hw : X.w = Wd.w) (hu : X.A.units + 200 < cLine) (I : Inv X pins σ H s) (le : HpLe F H) (e : H a = some (dctO a es)) (d : DK X.K F kvs es) (nd : (es.map (·.1)).Nodup) (hs : (a == sysModules) = false) {y : PyData} {k : NestedKey} {b : Addr} (ek : nkey y = some k) (hd : y.depth ≤ 8) (r : Dp X.K F (.ref b) y)
    (q : Q (.bl (!(dget kvs y).isSome)) H) : wpAny (model X.prog X.w) X.A (compareOp .NotIn (.ref b) (.ref a)) (EP X pins σ Q) X.xe s := by
  refine PyProof.Rows.wpAny_notIn_heap (dk_room hu) (dk_is I le ek hd r) hs (dk_of hw I le e d nd) ?_
  have g := d.get ek
  cases z : dget kvs y with
  | some x =>
    rw [z] at g q
    obtain ⟨p, v, e1, _⟩ := g
    rw [e1]
    exact ⟨.bl false, H, I.tok _, rfl, q⟩
  | none =>
    rw [z] at g q
    rw [g]
    exact ⟨.bl true, H, I.tok _, rfl, q⟩
end
/-! ### comparisons -/
section
variable {X : Cx} {B : BB} {Wx : WX}
theorem str_one {x : Str} (h : x.length = 1) : x = ⟨#[x.cps.getD 0 0]⟩ := by
  obtain ⟨⟨l⟩⟩ := x
  have h : l.length = 1 := h
  rcases l with _ | ⟨c, _ | ⟨c2, l⟩⟩
  · simp at h
  · rfl
  · simp at h
theorem in_one (x y : Str) (h : x.length = 1) : (!(Builtin.Str.occurrences y x 0 y.length 1).isEmpty) = y.cps.contains (x.cps.getD 0 0) := by
  rw [str_one h, StrLaws.found_one]
  simp [Array.contains_eq_mem]
theorem dkiOf_ok {h : Hq} {w : W} {kvs : List (Int × PyData)} (e : dkiOf h w = some kvs) : ∃ n, w = .l n ∧ h[n]? = some (.dki kvs) := by
  unfold dkiOf at e
  split at e
  · split at e
    · rename_i n _ k eo
      cases e
      exact ⟨_, rfl, eo⟩
    · cases e
  · cases e
theorem op_cmp (hw : X.w = Wd.w) (hu : X.A.units + 200 < cLine) (o : CmpOp) : OpR X (compareOp o) (rOp X.K xr B Wx (cmpW o)) := by
  intro pins s σ H x y v u Q I rx ry hq
  obtain ⟨m, F, env, h, σ', w1, w2, S, r1, r2, p⟩ := hq
  have fin : ∀ {v : V} {r : PyData}, Dp X.K F v r → PostE X.K xr B Wx m F env σ' H (.ok (.d r) h) Q → Q v H := fun q p => PostE.now p S q
  unfold cmpW at p
  split at p
  · rename_i kvs ed
    unfold dctOf at ed
    split at ed
    · rename_i n
      split at ed
      · rename_i kvs' eo
        cases ed
        obtain ⟨a, em, rfl⟩ := r2
        cases ry
        obtain ⟨fa, es, eH, dk, nd, hs, hl⟩ := S.hr.ob n _ a eo em
        split at p
        · rename_i k
          split at p
          · rename_i hk
            obtain ⟨xs, nk, rfl, ek, hd⟩ := isKey_ok hk
            have r1 : Dp X.K F x (.tuple xs) := r1
            have r1' := r1
            cases r1 with
            | tup h1 h2 =>
              cases rx
              exact dk_in hw hu I S.hr.sub eH dk nd hs ek hd r1' (fin (.bl _) p)
          · exact p.elim
        · rename_i k
          split at p
          · rename_i hk
            obtain ⟨xs, nk, rfl, ek, hd⟩ := isKey_ok hk
            have r1 : Dp X.K F x (.tuple xs) := r1
            have r1' := r1
            cases r1 with
            | tup h1 h2 =>
              cases rx
              exact dk_notin hw hu I S.hr.sub eH dk nd hs ek hd r1' (fin (.bl _) p)
          · exact p.elim
        · exact p.elim
      · cases ed
    · cases ed
  split at p
  rotate_left
  · unfold cmpI at p
    split at p
    rotate_left
    · exact p.elim
    rename_i kvs ed
    obtain ⟨n, rfl, eo⟩ := dkiOf_ok ed
    obtain ⟨a, em, rfl⟩ := r2
    cases ry
    obtain ⟨fa, vs, eH, di, hl⟩ := S.hr.ob n _ a eo em
    split at p
    · rename_i k _
      have r1 : Dp X.K F x (.int k) := r1
      cases r1
      have g := di.get k
      refine d_in (by show X.A.units + 1 < cLine; omega) I (DGet.k (k := .inl k) eH) rx fun s' I' => ?_
      refine ⟨.bl (iget kvs k).isSome, H, I', ?_, fin (.bl _) p⟩
      cases z : iget kvs k with
      | some y => rw [z] at g; obtain ⟨u', e1, _⟩ := g; rw [e1]; rfl
      | none => rw [z] at g; rw [g]; rfl
    · rename_i k _
      have r1 : Dp X.K F x (.int k) := r1
      cases r1
      have g := di.get k
      refine d_notIn (by show X.A.units + 1 < cLine; omega) I (DGet.k (k := .inl k) eH) rx fun s' I' => ?_
      refine ⟨.bl (!(iget kvs k).isSome), H, I', ?_, fin (.bl _) p⟩
      cases z : iget kvs k with
      | some y => rw [z] at g; obtain ⟨u', e1, _⟩ := g; rw [e1]; rfl
      | none => rw [z] at g; rw [g]; rfl
    · exact p.elim
  rename_i d e t1 t2
  unfold liftO at p
  split at p
  rotate_left
  · exact p.elim
  rename_i r ev
  have d1 := toDD_dp S.hr r1 t1
  have d2 := toDD_dp S.hr r2 t2
  have p1 := dp_plain _ _ d1
  have p2 := dp_plain _ _ d2
  obtain ⟨as, q1⟩ := Dp.reads I d x v d1 rx
  obtain ⟨bs, q2⟩ := Dp.reads I e y u d2 ry
  have bl : ∀ {k : Bool}, r = .bool k → EP X pins σ Q (.bool k) s := fun {k} ek => by
    subst ek
    exact ⟨.bl k, H, I, rfl, fin (.bl k) p⟩
  cases o
  case Eq =>
    simp only [evCmp] at ev
    split at ev
    · rename_i hc
      cases ev
      have hm : min d.depth e.depth ≤ 150 := by
        rcases Bool.or_eq_true _ _ ▸ hc with z | z
        · have := of_decide_eq_true z; omega
        · have := of_decide_eq_true z; omega
      exact SeqAt.eq_plain q1 q2 p1 p2 (by omega) (bl rfl)
    · cases ev
  case NotEq =>
    simp only [evCmp] at ev
    split at ev
    · rename_i hc
      cases ev
      have hm : min d.depth e.depth ≤ 150 := by
        rcases Bool.or_eq_true _ _ ▸ hc with z | z
        · have := of_decide_eq_true z; omega
        · have := of_decide_eq_true z; omega
      exact SeqAt.ne_plain q1 q2 p1 p2 (by omega) (bl rfl)
    · cases ev
  case In =>
    cases e <;> simp only [evCmp, reduceCtorEq] at ev
    case list ys =>
      split at ev
      · rename_i hc
        cases ev
        have := of_decide_eq_true hc
        exact SeqAt.in_list_data q2 q1 (by simpa [PyData.plain] using p2) p1 (by omega) (bl rfl)
      · cases ev
    case tuple ys =>
      split at ev
      · rename_i hc
        cases ev
        have := of_decide_eq_true hc
        exact SeqAt.in_tuple_data q2 q1 (by simpa [PyData.plain] using p2) p1 (by omega) (bl rfl)
      · cases ev
    case str ys =>
      cases d <;> simp only [evCmp, reduceCtorEq] at ev
      split at ev
      · rename_i z hc
        cases ev
        cases d1; cases d2
        exact op_in_str pins s σ H _ _ v u Q I rx ry ⟨z, ys, rfl, rfl, by rw [in_one _ _ hc]; exact fin (.bl _) p⟩
      · cases ev
    all_goals (cases d <;> simp only [evCmp, reduceCtorEq] at ev)
  case NotIn =>
    cases e <;> simp only [evCmp, reduceCtorEq] at ev
    case list ys =>
      split at ev
      · rename_i hc
        cases ev
        have := of_decide_eq_true hc
        exact SeqAt.notIn_list_data q2 q1 (by simpa [PyData.plain] using p2) p1 (by omega) (bl rfl)
      · cases ev
    case tuple ys =>
      split at ev
      · rename_i hc
        cases ev
        have := of_decide_eq_true hc
        exact SeqAt.notIn_tuple_data q2 q1 (by simpa [PyData.plain] using p2) p1 (by omega) (bl rfl)
      · cases ev
    case str ys =>
      cases d <;> simp only [evCmp, reduceCtorEq] at ev
      split at ev
      · rename_i z hc
        cases ev
        cases d1; cases d2
        exact op_notin_str pins s σ H _ _ v u Q I rx ry ⟨z, ys, rfl, rfl, by rw [in_one _ _ hc]; exact fin (.bl _) p⟩
      · cases ev
    all_goals (cases d <;> simp only [evCmp, reduceCtorEq] at ev)
  all_goals (cases d <;> cases e <;> simp only [evCmp, reduceCtorEq] at ev)
  case Lt.int.int i j => cases d1; cases d2; cases ev; exact op_lt pins s σ H _ _ v u Q I rx ry ⟨i, j, rfl, rfl, fin (.bl _) p⟩
  case LtE.int.int i j => cases d1; cases d2; cases ev; exact op_le pins s σ H _ _ v u Q I rx ry ⟨i, j, rfl, rfl, fin (.bl _) p⟩
  case Lt.tuple.tuple xs ys =>
    split at ev
    · rename_i hc
      cases ev
      obtain ⟨h1, h2⟩ := Bool.and_eq_true_iff.mp hc
      have := of_decide_eq_true h2
      exact PySem.W.lt_data q1 q2 h1 (by simp) (by omega) (bl rfl)
    · cases ev
  case LtE.tuple.tuple xs ys =>
    split at ev
    · rename_i hc
      cases ev
      obtain ⟨h1, h2⟩ := Bool.and_eq_true_iff.mp hc
      have := of_decide_eq_true h2
      exact PySem.W.le_data q1 q2 h1 (by simp) (by omega) (bl rfl)
    · cases ev
  case Gt.tuple.tuple xs ys =>
    split at ev
    · rename_i hc
      cases ev
      obtain ⟨h1, h2⟩ := Bool.and_eq_true_iff.mp hc
      have := of_decide_eq_true h2
      exact PySem.W.gt_data q1 q2 h1 (by simp) (by omega) (bl rfl)
    · cases ev
  case GtE.tuple.tuple xs ys =>
    split at ev
    · rename_i hc
      cases ev
      obtain ⟨h1, h2⟩ := Bool.and_eq_true_iff.mp hc
      have := of_decide_eq_true h2
      exact PySem.W.ge_data q1 q2 h1 (by simp) (by omega) (bl rfl)
    · cases ev
  case Gt.int.int i j => cases d1; cases d2; cases ev; exact op_gt pins s σ H _ _ v u Q I rx ry ⟨i, j, rfl, rfl, fin (.bl _) p⟩
  case GtE.int.int i j => cases d1; cases d2; cases ev; exact op_ge pins s σ H _ _ v u Q I rx ry ⟨i, j, rfl, rfl, fin (.bl _) p⟩
end
end
end Ev

/-! EvD: which term stands for which piece of the text (matE), and that its value is what the layer's reading asks (sndE). -/
namespace Ev
open PySem PySem.Spec L2

/-! ### the terms of a text -/
/-- a class of exceptions: its name, whether it is the program's own, the numbers of the own classes under it (itself too), its fields -/
structure CDef where
  nm : Str
  own : Bool
  subs : List Nat
  fl : List Str
/-- what stands at the program's top: its defs, its whole numbers, its texts, its classes of exceptions -/
structure GE where
  fn : List Str
  gi : List (Str × Int)
  gs : List (Str × Str)
  cls : List CDef
/-- .. and a def's names; the slot of the exception that is in hand; whether none is handled -/
structure ME extends GE where
  N : List Str
  xs : Option Nat
  cm : Bool
def clsAt (M : ME) (z : Str) (cs : List Nat) : Bool := M.cls.any fun d => decide (d.nm = z) && decide (d.subs = cs)

def isGl (sc : Scope) (x : Str) : Bool := decide (sc.names.lookup x = some .globalImplicit)
def isVis (sc : Scope) (x : Str) : Bool := match sc.names.lookup x with
  | some .local => true
  | some .cell => true
  | some .free => true
  | _ => false
def isSto (sc : Scope) (x : Str) : Bool := match sc.names.lookup x with
  | some .local => true
  | some .cell => true
  | _ => false
def plainN (x : Str) : Bool := decide (x ≠ ("__debug__" : Str)) && decide (x ≠ ("__classdict__" : Str)) && decide (x ≠ ("__name__" : Str))
def notStar : Expr → Bool
  | .Starred _ _ => false
  | _ => true
def notSlice : Expr → Bool
  | .Slice _ _ _ _ => false
  | _ => true
def notSet : Expr → Bool
  | .Set _ _ _ => false
  | _ => true
def notIf : Expr → Bool
  | .IfExp _ _ _ _ => false
  | _ => true
def isBO : Expr → Bool
  | .BoolOp _ _ _ => true
  | _ => false
def notCall0 : Expr → Bool
  | .Call (.Name _ _) [] [] _ => false
  | _ => true
def matC : PyData → Const → Bool
  | .int i, .int j => decide (i = j)
  | .bool i, .bool j => decide (i = j)
  | .str i, .str j => decide (i = j)
  | .none, .none => true
  | _, _ => false
def Bt.nm : Bt → Str
  | .len => "len" | .tuple => "tuple" | .int => "int" | .sum => "sum" | .max => "max" | .min => "min" | .all => "all" | .any => "any" | .sorted => "sorted"
  | .list => "list" | .repr => "repr" | .str => "str" | .max2 => "max" | .min2 => "min"
def Bt.isTy : Bt → Bool
  | .tuple => true | .int => true | .list => true | .str => true
  | _ => false
/-- no need that no exception is handled -/
def Bt.free : Bt → Bool
  | .sum => false | .max => false | .min => false | .all => false | .any => false
  | _ => true
def Mt.nm : Mt → Str
  | .count => "count" | .index => "index" | .get => "get" | .pop => "pop"
def Mt.okM : Mt → Bool
  | .count => true | .index => true | .get => true | .pop => false
def Es.len : Es → Nat
  | .nil => 0
  | .cons _ es => es.len + 1
def isAt (N : List Str) (i : Nat) (x : Str) : Bool := decide (N[i]? = some x)
def matTs (N : List Str) (sto : Str → Bool) : List Nat → List Expr → Bool
  | [], [] => true
  | i :: is, .Name x _ :: ps => isAt N i x && sto x && matTs N sto is ps
  | _, _ => false
def matT (N : List Str) (sto : Str → Bool) (t : List Nat) (u : Bool) (tg : Expr) : Bool := match u, t, tg with
  | false, [i], .Name x _ => isAt N i x && sto x
  | true, t, .Tuple ps _ _ => matTs N sto t ps
  | _, _, _ => false
def ownOf (N : List Str) (t : List Nat) : List (Str × Nat) := t.filterMap fun i => (N[i]?).map fun x => (x, i)

def Ity.nm : Ity → Str
  | .int => "int" | .bool => "bool" | .str => "str" | .tuple => "tuple"
def isTy (sc : Scope) (c : Ity) : Expr → Bool
  | .Name y _ => decide (y = c.nm) && isGl sc y
  | _ => false
/-- range(a) -/
def rgOf (sc : Scope) : Expr → Option Expr
  | .Call (.Name y _) [pa] [] _ => if y = "range" ∧ isGl sc y ∧ notStar pa then some pa else none
  | _ => none
def intC : Expr → Option Int
  | .Constant (.int i) _ _ => some i
  | .UnaryOp .USub (.Constant (.int i) _ _) _ => some (-i)
  | _ => none
def dictOf : Expr → Option (List (Option Expr) × List Expr)
  | .Dict ks vs _ => some (ks, vs)
  | _ => none
def keyIsC (s : Str) : Option Expr → Bool
  | some (.Constant (.str t) _ _) => decide (s = t)
  | _ => false
def matKV : List (Str × Int) → List (Option Expr) → List Expr → Bool
  | [], [], [] => true
  | (s, i) :: r, k :: ks, v :: vs => keyIsC s k && decide (intC v = some i) && matKV r ks vs
  | _, _, _ => false
def noSC : Expr → Bool
  | .ListComp _ _ _ _ => false
  | .SetComp _ _ _ _ => false
  | .DictComp _ _ _ _ _ => false
  | _ => true
def isM1 : Expr → Bool
  | .UnaryOp .USub (.Constant (.int i) _ _) _ => decide (i = 1)
  | _ => false
mutual
def matE (M : ME) : Scope → E → Expr → Bool
  | _, .bad, p => noSC p
  | _, .dnew, .Dict [] [] _ => true
  | _, .dnewI, .Dict [] [] _ => true
  | sc, .glb i, .Name x _ => M.gi.contains (x, i) && isGl sc x && plainN x
  | sc, .glbS z, .Name x _ => M.gs.contains (x, z) && isGl sc x && plainN x
  | sc, .exis i cs, .Call (.Name x _) [.Name y _, .Name z _] [] _ => decide (M.xs = some i) && decide (x = "isinstance") && isGl sc x && isAt M.N i y && isVis sc y && plainN y && clsAt M z cs && isGl sc z && plainN z
  | sc, .exfld i js, .Attribute (.Name y _) f _ => decide (M.xs = some i) && isAt M.N i y && isVis sc y && plainN y && js.all (fun p => match M.cls[p.1]? with
    | some d => decide (d.fl[p.2]? = some f)
    | none => false)
  | sc, .trg t a, .Call (.Name x _) [q] [] _ => M.cm && decide (x = if t then "tuple" else "list") && isGl sc x && notStar q && (match rgOf sc q with
    | some pa => matE M sc a pa
    | none => false)
  | sc, .isa c a, .Call (.Name x _) [pa, q] [] _ => decide (x = "isinstance") && isGl sc x && notStar pa && notStar q && isTy sc c q && matE M sc a pa
  | sc, .dlg kvs k d, .Call (.Attribute po x ap) [pk, pd] [] cp => decide (x = "get") && (ap.endLine == cp.line) && notStar pk && notStar pd && (match dictOf po with
    | some (ks, vs) => matKV kvs ks vs && decide (0 < ks.length) && decide (ks.length ≤ 15)
    | none => false) && matE M sc k pk && matE M sc d pd
  | sc, .var i, .Name x _ => isAt M.N i x && isVis sc x && plainN x && decide (M.xs ≠ some i)
  | _, .lit c, .Constant k _ _ => matC c k
  | sc, .tup es, .Tuple ps _ _ => matEs M sc es ps && decide (es.len ≤ 10000)
  | sc, .lst es, .List ps _ => matEs M sc es ps && decide (es.len ≤ 10000)
  | sc, .lstM es, .List ps _ => matEs M sc es ps && decide (es.len ≤ 10000)
  | sc, .lsw es, .List ps _ => matEs M sc es ps && decide (es.len ≤ 10000)
  | sc, .bin o a b, .BinOp pa o' pb _ => decide (o = o') && matE M sc a pa && matE M sc b pb
  | sc, .binM o a b, .BinOp pa o' pb _ => decide (o = o') && matE M sc a pa && matE M sc b pb
  | sc, .neg a, .UnaryOp .USub pa _ => matE M sc a pa
  | sc, .nt a, .UnaryOp .Not pa _ => matE M sc a pa && notIf pa
  | sc, .cmp o a b, .Compare pa [o'] [pb] _ => decide (o = o') && notSet pb && matE M sc a pa && matE M sc b pb
  | sc, .isN a, .Compare pa [.Is] [.Constant .none _ _] _ => matE M sc a pa
  | sc, .isB n k a, .Compare pa [o] [.Constant (.bool k') _ _] _ => decide (o = if n then .IsNot else .Is) && decide (k = k') && matE M sc a pa
  | sc, .notN a, .Compare pa [.IsNot] [.Constant .none _ _] _ => matE M sc a pa
  | sc, .cmp2 o p a b c, .Compare pa [o', p'] [pb, pc] _ => decide (o = o') && decide (p = p') && notSet pb && notSet pc && matE M sc a pa && matE M sc b pb && matE M sc c pc
  | sc, .one a, .BoolOp _ [pa] _ => matE M sc a pa && notIf pa
  | sc, .and a b, .BoolOp .And (pa :: pb :: ps) pos => matE M sc a pa && notIf pa && matE M sc b (.BoolOp .And (pb :: ps) pos)
  | sc, .or a b, .BoolOp .Or (pa :: pb :: ps) pos => matE M sc a pa && notIf pa && matE M sc b (.BoolOp .Or (pb :: ps) pos)
  | sc, .ife c a b, .IfExp pc pa pb _ => matE M sc c pc && notIf pc && matE M sc a pa && matE M sc b pb
  | sc, .idx a i, .Subscript pa pi _ => notSlice pi && matE M sc a pa && matE M sc i pi
  | sc, .slc a lo hi, .Subscript pa (.Slice pl ph none _) _ => matE M sc a pa && matOe M sc lo pl && matOe M sc hi ph
  | sc, .rev a, .Subscript pa (.Slice none none (some (.UnaryOp .USub (.Constant (.int 1) _ _) _)) _) _ => matE M sc a pa
  | sc, .blt f es, .Call (.Name x _) (p :: ps) [] _ => decide (x = f.nm) && isGl sc x && matEs M sc es (p :: ps) && (M.cm || f.free)
  | sc, .mth f o es, .Call (.Attribute po x ap) (p :: ps) [] cp => f.okM && decide (x = f.nm) && notCall0 po && (ap.endLine == cp.line) && decide (ps.length < 20) && matE M sc o po && matEs M sc es (p :: ps)
  | sc, .sset a, .Call (.Name x _) [.Call (.Name y _) [pa] [] _] [] _ => M.cm && decide (x = "sorted") && decide (y = "set") && isGl sc x && isGl sc y && notStar pa && matE M sc a pa
  | sc, .call f es, .Call (.Name x _) (p :: ps) [] _ => M.cm && isAt M.fn f x && isGl sc x && plainN x && matEs M sc es (p :: ps)
  | sc, .call0 f, .Call (.Name x _) [] [] _ => M.cm && isAt M.fn f x && isGl sc x && plainN x
  | sc, .lc _ t u it c e, .ListComp pe [⟨tg, pi, ifs, a⟩] scope _ => M.cm && decide (a = 0) && !t.isEmpty && notSet pi && blkC M.N sc scope (ownOf M.N t) && matT M.N (isSto scope) t u tg && matIt M sc it pi && matIfs M (relS scope sc) c ifs && matE M (relS scope sc) e pe
  | _, _, _ => false
def matEs (M : ME) : Scope → Es → List Expr → Bool
  | _, .nil, [] => true
  | sc, .cons e es, p :: ps => notStar p && matE M sc e p && matEs M sc es ps
  | _, _, _ => false
def matOe (M : ME) : Scope → Oe → Option Expr → Bool
  | _, .none, none => true
  | sc, .some e, some p => matE M sc e p
  | _, _, _ => false
def matIfs (M : ME) : Scope → Oe → List Expr → Bool
  | _, .none, [] => true
  | sc, .some e, [p] => matE M sc e p && notIf p
  | _, _, _ => false
def matIt (M : ME) : Scope → It → Expr → Bool
  | sc, .e a, p => matE M sc a p
  | sc, .rg1 a, .Call (.Name x _) [pa] [] _ => decide (x = "range") && isGl sc x && notStar pa && matE M sc a pa
  | sc, .rg2 a b, .Call (.Name x _) [pa, pb] [] _ => decide (x = "range") && isGl sc x && notStar pa && notStar pb && matE M sc a pa && matE M sc b pb
  | sc, .rgd a b, .Call (.Name x _) [pa, pb, pc] [] _ => decide (x = "range") && isM1 pc && isGl sc x && notStar pa && notStar pb && matE M sc a pa && matE M sc b pb
  | _, _, _ => false
end
end Ev

/-! EvE: targets, items, comprehensions. -/
namespace Ev
open PySem PySem.Spec L2

/-! ### slots -/
def sAll : List Nat → List V → L2.St → L2.St
  | i :: is, x :: xs, σ => sAll is xs (σ.set i (some x))
  | _, _, σ => σ
theorem sAll_set {t : List Nat} : ∀ {xs : List V} {σ : L2.St} {i : Nat} {y : Option V}, i ∈ t → xs.length = t.length → sAll t xs (σ.set i y) = sAll t xs σ := by
  induction t with
  | nil => intro xs σ i y h; simp at h
  | cons j js ih =>
    intro xs σ i y h hl
    cases xs with
    | nil => simp at hl
    | cons x xs =>
      simp only [sAll]
      by_cases e : i = j
      · subst e; rw [List.set_set]
      · have hi : i ∈ js := by
          rcases List.mem_cons.mp h with z | z
          · exact absurd z e
          · exact z
        rw [List.set_comm _ _ e]
        exact ih hi (by simpa using hl)
theorem sAll_wipe {t : List Nat} {xs : List V} (hl : xs.length = t.length) : ∀ {vs : List Nat} {σ : L2.St}, (∀ i ∈ vs, i ∈ t) → sAll t xs (wipe σ vs) = sAll t xs σ
  | [], _, _ => rfl
  | v :: vs, σ, h => by
    show sAll t xs ((wipe σ vs).set v none) = _
    rw [sAll_set (h v List.mem_cons_self) hl, sAll_wipe hl fun i hi => h i (List.mem_cons_of_mem _ hi)]
theorem wipe_set {vs : List Nat} : ∀ {σ : L2.St} {i : Nat} {y : Option V}, i ∈ vs → wipe (σ.set i y) vs = wipe σ vs := by
  induction vs with
  | nil => intro σ i y h; simp at h
  | cons v vs ih =>
    intro σ i y h
    show (wipe (σ.set i y) vs).set v none = (wipe σ vs).set v none
    by_cases e : i ∈ vs
    · rw [ih e]
    · have hv : i = v := by
        rcases List.mem_cons.mp h with z | z
        · exact z
        · exact absurd z e
      subst hv
      have comm : ∀ (ws : List Nat) (σ : L2.St), i ∉ ws → wipe (σ.set i y) ws = (wipe σ ws).set i y := by
        intro ws
        induction ws with
        | nil => intro σ _; rfl
        | cons w ws ihw =>
          intro σ hw
          simp only [List.mem_cons, not_or] at hw
          show (wipe (σ.set i y) ws).set w none = ((wipe σ ws).set w none).set i y
          rw [ihw σ hw.2, List.set_comm _ _ hw.1]
      rw [comm vs σ e, List.set_set]
theorem wipe_sAll {vs : List Nat} : ∀ {t : List Nat} {xs : List V} {σ : L2.St}, (∀ i ∈ t, i ∈ vs) → wipe (sAll t xs σ) vs = wipe σ vs
  | [], _, _, _ => by simp only [sAll]
  | _ :: _, [], _, _ => by simp only [sAll]
  | i :: is, x :: xs, σ, h => by
    simp only [sAll]
    rw [wipe_sAll (t := is) fun j hj => h j (List.mem_cons_of_mem _ hj), wipe_set (h i List.mem_cons_self)]
theorem wipe_wipe {vs : List Nat} {σ : L2.St} : wipe (wipe σ vs) vs = wipe σ vs := by
  have : ∀ (us : List Nat) (σ : L2.St), (∀ i ∈ us, i ∈ vs) → wipe (wipe σ us) vs = wipe σ vs := by
    intro us
    induction us with
    | nil => intro σ _; rfl
    | cons u us ih =>
      intro σ h
      show wipe ((wipe σ us).set u none) vs = _
      rw [wipe_set (h u List.mem_cons_self), ih σ fun i hi => h i (List.mem_cons_of_mem _ hi)]
  exact this vs σ fun _ h => h

section
variable [Wd]
section
variable {K : PySem.W.Frag} {xr : XRel} {B : BB} {Wx : WX} {m : List Addr} {F H : Hp} {env : Vars} {h : Hq} {σ : L2.St}
theorem SR.setv (s : SR K B m F env h σ H) {i : Nat} {w : W} {x : V} (hx : ∀ e, B.ex = some e → i ≠ e.i) (r : WR K m F x w) : SR K B m F (env.set i (some w)) h (σ.set i (some x)) H := by
  refine ⟨s.hr, by simpa using s.el, fun j u hj' e => ?_, fun e he => ?_⟩
  rotate_left
  · obtain ⟨h1, h2, h3⟩ := s.exv e he
    exact ⟨by rw [List.getElem?_set_ne (hx e he)]; exact h1, by rw [List.getElem?_set_ne (hx e he)]; exact h2, h3⟩
  by_cases hj : j = i
  · subst hj
    have hl : j < env.length := by
      have := (List.getElem?_eq_some_iff.mp e).1
      simpa using this
    rw [List.getElem?_set_self hl] at e
    cases e
    exact ⟨x, by rw [List.getElem?_set_self (Nat.lt_of_lt_of_le hl s.el)], r⟩
  · rw [List.getElem?_set_ne (Ne.symm hj)] at e
    obtain ⟨v, e1, r1⟩ := s.var j u hj' e
    exact ⟨v, by rw [List.getElem?_set_ne (Ne.symm hj)]; exact e1, r1⟩
theorem SR.setAll : ∀ {t : List Nat} {ws : List W} {xs : List V} {env : Vars} {σ : L2.St}, (∀ e, B.ex = some e → e.i ∉ t) → SR K B m F env h σ H → WRs K m F xs ws → SR K B m F (Ev.setAll t ws env) h (sAll t xs σ) H
  | [], _, _, _, _, _, s, _ => by simp only [Ev.setAll, sAll]; exact s
  | _ :: _, [], _, _, _, _, s, r => by cases r; simp only [Ev.setAll, sAll]; exact s
  | _ :: _, _ :: _, _, _, _, hx, s, r => by
    cases r with
    | cons r1 r2 => simp only [Ev.setAll, sAll]; exact SR.setAll (fun e he z => hx e he (List.mem_cons_of_mem _ z)) (s.setv (fun e he z => hx e he (by rw [z]; exact List.mem_cons_self)) r1) r2
end

/-! ### targets -/
def gNames : List Nat → TGs
  | [] => gNil
  | i :: is => gCons (gName i) (gNames is)
def gT (K : PySem.W.Frag) (t : List Nat) (u : Bool) : TG := match u, t with
  | false, i :: _ => gName i
  | false, [] => fun _ _ _ _ => False
  | true, t => fun v σ H Q => gTup K t.length (gNames t) v σ H Q ∨ gLst K t.length (gNames t) v σ H Q
theorem gNames_ok {t : List Nat} : ∀ {xs : List V} {σ : L2.St} {H : Hp} {Q : L2.St → Hp → Prop}, xs.length = t.length → Q (sAll t xs σ) H → gNames t xs σ H Q := by
  induction t with
  | nil =>
    intro xs σ H Q hl q
    cases xs with
    | nil => exact ⟨rfl, q⟩
    | cons _ _ => simp at hl
  | cons i is ih =>
    intro xs σ H Q hl q
    cases xs with
    | nil => simp at hl
    | cons x xs => exact ⟨x, xs, rfl, ih (by simpa using hl) q⟩
section
variable {K : PySem.W.Frag} {xr : XRel} {B : BB} {Wx : WX} {m : List Addr} {F H : Hp} {env env' : Vars} {h : Hq} {σ : L2.St}
/-- a turn's item comes to its slots; vs: slots that are forgotten ahead -/
theorem bind_ok' (hx : B.ex = none) {t : List Nat} {u : Bool} {w : W} {x : V} {vs : List Nat} {Q : L2.St → Hp → Prop} (e : bindT t u w env = some env') (r : WR K m F x w) (s : SR K B m F env h σ H) (hv : ∀ i ∈ vs, i ∈ t) (hv' : vs = [] ∨ ∀ i ∈ t, i ∈ vs)
    (q : ∀ σ2, SR K B m F env' h σ2 H → (vs ≠ [] → wipe σ2 vs = wipe σ vs) → Q σ2 H) : gT K t u x (wipe σ vs) H Q := by
  have done : ∀ {xs : List V} {t : List Nat}, xs.length = t.length → (∀ i ∈ vs, i ∈ t) → (vs = [] ∨ ∀ i ∈ t, i ∈ vs) → SR K B m F env' h (sAll t xs σ) H → Q (sAll t xs (wipe σ vs)) H := fun {xs t} hl h1 h2 s' => by
    rw [sAll_wipe hl h1]
    refine q _ s' fun hne => ?_
    rcases h2 with h2 | h2
    · exact absurd h2 hne
    · exact wipe_sAll h2
  unfold bindT at e
  split at e
  · split at e
    · rename_i i
      cases e
      exact done (xs := [x]) (t := [i]) rfl hv hv' (s.setv (fun e he => by rw [hx] at he; cases he) r)
    · cases e
  · split at e
    · rename_i xs
      split at e
      · rename_i hl
        cases e
        obtain ⟨a, us, rfl, sq, d⟩ : ∃ a us, x = .ref a ∧ SqT K F a us ∧ DpAll K F us xs := by
          have r : Dp K F x (.tuple xs) := r
          cases r with
          | tup h1 h2 => exact ⟨_, _, rfl, h1, h2⟩
        have hl' : us.length = t.length := by rw [d.length]; exact hl
        exact .inl ⟨a, us, rfl, s.hr.sub.sqt sq, hl', gNames_ok hl' (done hl' hv hv' (SR.setAll (fun e he => by rw [hx] at he; cases he) s (WRs.ofD d)))⟩
      · cases e
    · rename_i xs
      split at e
      · rename_i hl
        cases e
        obtain ⟨a, us, rfl, sq, d⟩ : ∃ a us, x = .ref a ∧ SqL K F a us ∧ DpAll K F us xs := by
          have r : Dp K F x (.list xs) := r
          cases r with
          | lst h1 h2 => exact ⟨_, _, rfl, h1, h2⟩
        have hl' : us.length = t.length := by rw [d.length]; exact hl
        exact .inr ⟨a, us, rfl, s.hr.sub.sql sq, hl', gNames_ok hl' (done hl' hv hv' (SR.setAll (fun e he => by rw [hx] at he; cases he) s (WRs.ofD d)))⟩
      · cases e
    · cases e
end
section
variable {X : Cx}
theorem assign1 {p : Expr} {ps : List Expr} {env : Env} (h : notStar p = true) : assignEach (p :: ps) env = (false, assign p env) :: assignEach ps env := by
  cases p <;> first | rfl | (simp [notStar] at h)
theorem pgs_names {N : List Str} {sto : Str → Bool} (hN : X.N = N) (nd : X.N.Nodup) (hst : ∀ x, sto x = true → Loc X.env.scope x ∧ (X.fn x = true ∨ X.env.scope.names.lookup x = some .local)) :
    ∀ {t : List Nat} {ps : List Expr}, matTs N sto t ps = true → PGs X ps (gNames t) ∧ (assignEach ps X.env).length = t.length ∧ (assignEach ps X.env).findIdx? (·.1) = none := by
  intro t
  induction t with
  | nil =>
    intro ps h
    cases ps with
    | nil => exact ⟨pgs_nil, rfl, rfl⟩
    | cons p ps => simp [matTs] at h
  | cons i is ih =>
    intro ps h
    cases ps with
    | nil => simp [matTs] at h
    | cons p ps =>
      cases p <;> simp only [matTs, Bool.false_eq_true] at h
      case Name x pos =>
        simp only [Bool.and_eq_true, isAt, decide_eq_true_eq] at h
        obtain ⟨⟨h1, h2⟩, h3⟩ := h
        obtain ⟨a, b, c⟩ := ih h3
        obtain ⟨l, f⟩ := hst x h2
        refine ⟨pgs_cons (pg_name nd (by rw [hN]; exact h1) l f) a rfl, ?_, ?_⟩
        · show ((false, assign (.Name x pos) X.env) :: assignEach ps X.env).length = _
          rw [List.length_cons, b]; rfl
        · show ((false, assign (.Name x pos) X.env) :: assignEach ps X.env).findIdx? (·.1) = none
          rw [List.findIdx?_cons]
          simp [c]
theorem pg_either {p : Expr} {t u : TG} (h : PG X p t) (g : PG X p u) : PG X p (fun v σ H Q => t v σ H Q ∨ u v σ H Q) :=
  ⟨fun pins s σ H v x Q I r q => q.elim (h.run pins s σ H v x Q I r) (g.run pins s σ H v x Q I r)⟩
theorem pg_T {N : List Str} {sto : Str → Bool} {u : Bool} (hc : u = true → X.calm = true) (hN : X.N = N) (nd : X.N.Nodup) (hst : ∀ x, sto x = true → Loc X.env.scope x ∧ (X.fn x = true ∨ X.env.scope.names.lookup x = some .local)) {t : List Nat} {tg : Expr}
    (h : matT N sto t u tg = true) : PG X tg (gT X.K t u) := by
  unfold matT at h
  split at h
  · rename_i i x pos
    simp only [Bool.and_eq_true, isAt, decide_eq_true_eq] at h
    obtain ⟨l, f⟩ := hst x h.2
    exact pg_name nd (by rw [hN]; exact h.1) l f
  · rename_i ps k pos
    obtain ⟨a, b, c⟩ := pgs_names hN nd hst h
    exact pg_either (pg_tup (hc rfl) a b c) (pg_lst (hc rfl) a b c)
  · cases h
end

/-! ### what is walked -/
/-- the place that is walked is as it was -/
def kept (q : Option Nat) (h h' : Hq) : Prop := match q with
  | none => True
  | some n => h'[n]? = h[n]?
theorem kept.refl {q : Option Nat} {h : Hq} : kept q h h := by cases q <;> simp [kept]
theorem kept.trans {q : Option Nat} {h h1 h2 : Hq} (a : kept q h h1) (b : kept q h1 h2) : kept q h h2 := by
  cases q with
  | none => trivial
  | some n => exact (show h2[n]? = h1[n]? from b).trans a
theorem kpt_ok {α : Type} {q : Option Nat} {h h' : Hq} {r : R α} {a : α} (e : kpt q h r = .ok a h') : r = .ok a h' ∧ kept q h h' := by
  cases q with
  | none => exact ⟨e, trivial⟩
  | some n =>
    cases r with
    | ok a1 h1 =>
      simp only [kpt, R.bind] at e
      split at e
      · rename_i hk
        cases e
        exact ⟨rfl, hk⟩
      · cases e
    | ex c ds h1 => cases e
    | bad => cases e
/-- an iterator over just these items, as long as the place that is walked stays -/
def ItOk (K : PySem.W.Frag) (q : Option Nat) (h0 : Hq) (m : List Addr) (F : Hp) (J : L2.It) (ws : List W) : Prop := ∀ (B : BB) (i : Nat) (m' : List Addr) (F' : Hp) (h' : Hq) (H' : Hp), MLe m m' → HpLe F F' → HR K B.c m' F' h' H' → kept q h0 h' →
  (∀ w, ws[i]? = some w → J.go i H' ∧ ∀ x H2, J.yld i H' x H2 → H2 = H' ∧ WR K m' F' x w) ∧ (ws.length ≤ i → J.stop i H')
def tI (K : PySem.W.Frag) (xr : XRel) (B : BB) (Wx : WX) (f : Vars → Hq → R (List W × Option Nat)) : TI := fun σ H G => ∃ m F env h, SR K B m F env h σ H ∧
  PostG K xr B Wx m F env σ H (f env h) (fun ws h' m' F' H' => ∀ J, ItOk K ws.2 h' m' F' J ws.1 → ws.1.length ≤ sizeLine → G J H')
section
variable {K : PySem.W.Frag} {m : List Addr} {F : Hp}
variable {h0 : Hq}
theorem it_list {a : Addr} {vs : List V} {ds : List PyData} (sq : SqL K F a vs) (d : DpAll K F vs ds) : ItOk K none h0 m F (Itl K a) (ds.map .d) := by
  intro B i m' F' h' H' ml le r _
  have le' := le.trans r.sub
  refine ⟨fun w e => ?_, fun hl => ⟨vs, le'.sql sq, by rw [d.length]; simpa using hl⟩⟩
  rw [List.getElem?_map] at e
  obtain ⟨x, ex, rfl⟩ := Option.map_eq_some_iff.mp e
  obtain ⟨v, ev, rv⟩ := d.get ex
  refine ⟨⟨vs, v, le'.sql sq, ev⟩, fun y H2 hy => ?_⟩
  obtain ⟨e1, e2⟩ := hy
  have := e2 vs (le'.sql sq)
  rw [ev] at this
  cases this
  exact ⟨e1, dp_mono le _ _ rv⟩
theorem it_tup {a : Addr} {vs : List V} {ds : List PyData} (sq : SqT K F a vs) (d : DpAll K F vs ds) : ItOk K none h0 m F (Itt K a) (ds.map .d) := by
  intro B i m' F' h' H' ml le r _
  have le' := le.trans r.sub
  refine ⟨fun w e => ?_, fun hl => ⟨vs, le'.sqt sq, by rw [d.length]; simpa using hl⟩⟩
  rw [List.getElem?_map] at e
  obtain ⟨x, ex, rfl⟩ := Option.map_eq_some_iff.mp e
  obtain ⟨v, ev, rv⟩ := d.get ex
  refine ⟨⟨vs, v, le'.sqt sq, ev⟩, fun y H2 hy => ?_⟩
  obtain ⟨e1, e2⟩ := hy
  have := e2 vs (le'.sqt sq)
  rw [ev] at this
  cases this
  exact ⟨e1, dp_mono le _ _ rv⟩
theorem it_str {x : Str} : ItOk K none h0 m F (Its x) (x.cps.toList.map fun c => .d (.str ⟨#[c]⟩)) := by
  intro B i m' F' h' H' ml le r _
  refine ⟨fun w e => ?_, fun hl => (show x.cps.size ≤ i by simpa using hl)⟩
  rw [List.getElem?_map] at e
  obtain ⟨c, ex, rfl⟩ := Option.map_eq_some_iff.mp e
  have ex' : x.cps[i]? = some c := by simpa using ex
  obtain ⟨hi, _⟩ := Array.getElem?_eq_some_iff.mp ex'
  refine ⟨hi, fun y H2 hy => ?_⟩
  obtain ⟨e1, c', e2, rfl⟩ := hy
  rw [ex'] at e2
  cases e2
  exact ⟨e1, .str _⟩
/-- a list that may change, as long as it does not -/
theorem it_live {n : Nat} {a : Addr} {ws : List W} (em : m[n]? = some a) (eo : (∃ xs, h0[n]? = some (.lst xs) ∧ ws = xs.map .d) ∨ h0[n]? = some (.lsw ws)) : ItOk K (some n) h0 m F (Itl K a) ws := by
  intro B i m' F' h' H' ml le r hk
  have hk : h'[n]? = h0[n]? := hk
  have em' := ml.get em
  have : ∃ vs, H' a = some (.lst vs) ∧ WRs K m' F' vs ws := by
    rcases eo with ⟨xs, eo, rfl⟩ | eo
    · rw [eo] at hk
      obtain ⟨f, vs, eH, dd⟩ := r.ob n _ a hk em'
      exact ⟨vs, eH, WRs.ofD dd⟩
    · rw [eo] at hk
      obtain ⟨f, vs, eH, dd⟩ := r.ob n _ a hk em'
      exact ⟨vs, eH, dd⟩
  obtain ⟨vs, eH, dd⟩ := this
  refine ⟨fun w e => ?_, fun hl => ⟨vs, .of eH, by rw [dd.length]; exact hl⟩⟩
  obtain ⟨v, ev, rv⟩ := dd.get e
  refine ⟨⟨vs, v, .of eH, ev⟩, fun y H2 hy => ?_⟩
  obtain ⟨e1, e2⟩ := hy
  have := e2 vs (.of eH)
  rw [ev] at this
  cases this
  exact ⟨e1, rv⟩
theorem it_up {lo hi : Int} : ItOk K none h0 m F (Itr lo (hi - lo).toNat) (rangeUp lo hi) := by
  intro B i m' F' h' H' _ _ _ _
  refine ⟨fun w e => ?_, fun hl => by rw [rangeUp, List.length_map, List.length_range] at hl; exact hl⟩
  unfold rangeUp at e
  rw [List.getElem?_map] at e
  obtain ⟨x, ex, rfl⟩ := Option.map_eq_some_iff.mp e
  obtain ⟨hx, ex⟩ := List.getElem?_eq_some_iff.mp ex
  rw [List.length_range] at hx
  rw [List.getElem_range] at ex
  subst ex
  refine ⟨hx, fun y H' hy => ?_⟩
  obtain ⟨e1, e2⟩ := hy
  subst e2
  exact ⟨e1, .int _⟩
theorem it_dn {hi lo : Int} : ItOk K none h0 m F (Itc hi (-1) (hi - lo).toNat) (rangeDn hi lo) := by
  intro B i m' F' h' H' _ _ _ _
  refine ⟨fun w e => ?_, fun hl => by rw [rangeDn, List.length_map, List.length_range] at hl; exact hl⟩
  unfold rangeDn at e
  rw [List.getElem?_map] at e
  obtain ⟨x, ex, rfl⟩ := Option.map_eq_some_iff.mp e
  obtain ⟨hx, ex⟩ := List.getElem?_eq_some_iff.mp ex
  rw [List.length_range] at hx
  rw [List.getElem_range] at ex
  subst ex
  refine ⟨hx, fun y H' hy => ?_⟩
  obtain ⟨e1, e2⟩ := hy
  subst e2
  refine ⟨e1, ?_⟩
  rw [show hi + (i : Int) * -1 = hi - i by omega]
  exact .int _
end
def iSeq (K : PySem.W.Frag) (tl : TE) : TI := fun σ H G => tl σ H fun x H1 => (∃ z, x = .str z ∧ G (Its z) H1) ∨ ∃ a, x = .ref a ∧ (((∃ xs, SqL K H1 a xs) ∧ ((∀ xs, SqL K H1 a xs → xs.length ≤ sizeLine) → G (Itl K a) H1)) ∨ ((∃ xs, SqT K H1 a xs) ∧ ((∀ xs, SqT K H1 a xs → xs.length ≤ sizeLine) → G (Itt K a) H1)))
theorem pi_seq {X : Cx} {tg l : Expr} {tl : TE} (hl : PE X l tl) : PI X tg l (iSeq X.K tl) := by
  refine ⟨fun pins s σ H G I h => ?_⟩
  refine thn (hl.run pins s σ H _ I h) fun v s1 ⟨x, H1, I1, r1, q1⟩ => ?_
  rcases q1 with ⟨z, ez, q⟩ | ⟨a, e, q⟩
  · subst ez
    obtain ⟨t, rfl⟩ := r1
    cases ha : z.cps.all (· < 128)
    · exact wpAny_pyIter_wide ha (pi_one (tk := s1.toks) I1 _ (turn_str _ z t "str_iterator" (.inr rfl)) ⟨_, Heap.get?_push_size _ rfl, rfl, rfl⟩ q)
    · exact wpAny_pyIter_ascii ha (pi_one (tk := s1.toks) I1 _ (turn_str _ z t "str_ascii_iterator" (.inl rfl)) ⟨_, Heap.get?_push_size _ rfl, rfl, rfl⟩ q)
  subst e
  cases r1
  rcases q with ⟨⟨xs, hq⟩, q⟩ | ⟨⟨xs, hq⟩, q⟩
  · obtain ⟨its, rv, p, hz⟩ := I1.list hq
    refine wpAny_pyIter_list p.isList ?_
    refine ⟨s1.heap.objs.size, [s1.heap.objs.size], _, _, H1, rfl, I1.kept (t' := s1.toks) fun b o e => Heap.get?_push_of_some _ e, turn_list a _, ⟨_, Heap.get?_push_size _ rfl, rfl, rfl⟩, fun b hb => ?_, q fun ys hy => (I1.list hy).elim fun _ z => z.2.2⟩
    have e : b = s1.heap.objs.size := by simpa using hb
    subst e
    exact I1.fpOk (Nat.le_refl _) (I1.hok.fresh (Nat.le_refl _))
  · obtain ⟨its, rv, p, hz⟩ := I1.tuple hq
    refine wpAny_pyIter_tuple (show s1.heap.IsTuple a its.toArray from p) ?_
    refine ⟨s1.heap.objs.size, [s1.heap.objs.size], _, _, H1, rfl, I1.kept (t' := s1.toks) fun b o e => Heap.get?_push_of_some _ e, turn_tuple a _, ⟨_, Heap.get?_push_size _ rfl, rfl, rfl⟩, fun b hb => ?_, q fun ys hy => (I1.tuple hy).elim fun _ z => z.2.2⟩
    have e : b = s1.heap.objs.size := by simpa using hb
    subst e
    exact I1.fpOk (Nat.le_refl _) (I1.hok.fresh (Nat.le_refl _))
end
end Ev
namespace L2
open PySem PySem.Spec
theorem PI.weak {X : Cx} {tg it : Expr} {t t' : TI} (h : PI X tg it t) (i : ∀ σ H G, t' σ H G → t σ H G) : PI X tg it t' := ⟨fun pins s σ H G I q => h.run pins s σ H G I (i σ H G q)⟩
theorem PE.weak {X : Cx} {e : Expr} {t t' : TE} (h : PE X e t) (i : ∀ σ H Q, t' σ H Q → t σ H Q) : PE X e t' := ⟨fun pins s σ H Q I q => h.run pins s σ H Q I (i σ H Q q)⟩
theorem PT.weak {X : Cx} {e : Expr} {t t' : TT} (h : PT X e t) (i : ∀ σ H Q, t' σ H Q → t σ H Q) : PT X e t' := ⟨fun pins s σ H Q I q => h.run pins s σ H Q I (i σ H Q q)⟩
theorem PW.weak {X : Cx} {e : Expr} {t t' : TT} (h : PW X e t) (i : ∀ σ H Q, t' σ H Q → t σ H Q) : PW X e t' := ⟨fun w pins s σ H Q I q => h.run w pins s σ H Q I (i σ H Q q)⟩
theorem PS.weak {X : Cx} {e : Stmt} {t t' : TS} (h : PS X e t) (i : ∀ D σ H, t' D σ H → t D σ H) : PS X e t' := ⟨fun pins s σ H D I q => h.run pins s σ H D I (i D σ H q)⟩
theorem PSs.weak {X : Cx} {e : List Stmt} {t t' : TS} (h : PSs X e t) (i : ∀ D σ H, t' D σ H → t D σ H) : PSs X e t' := ⟨fun pins s σ H D I q => h.run pins s σ H D I (i D σ H q)⟩
theorem PTs.weak {X : Cx} {e : List Expr} {t t' : TT} (h : PTs X e t) (i : ∀ σ H Q, t' σ H Q → t σ H Q) : PTs X e t' := ⟨fun pins s σ H Q I q => h.run pins s σ H Q I (i σ H Q q)⟩
theorem PA.weak {X : Cx} {e : List Expr} {t t' : TA} (h : PA X e t) (i : ∀ σ H Q, t' σ H Q → t σ H Q) : PA X e t' := ⟨fun pos pins s σ H Q I q => h.run pos pins s σ H Q I (i σ H Q q)⟩
end L2

/-! EvF: comprehensions, by the list that they make. -/
namespace Ev
open PySem PySem.Spec L2

section
variable [Wd]
abbrev WF : WX := fun _ _ _ _ => False
def lcF (fc : Vars → Hq → R (Option W)) (fe : Vars → Hq → R W) (t : List Nat) (u : Bool) (env : Vars) : W → Hq → R (Option W) := fun w h => match bindT t u w env with
  | some env => (fc env h).bind fun q h => match boolO q with
    | some true => (fe env h).bind fun r h => .ok (some r) h
    | some false => .ok none h
    | none => .bad
  | none => .bad
def tO (K : PySem.W.Frag) (xr : XRel) (B : BB) (Wx : WX) (fc : Vars → Hq → R (Option W)) : TT := fun σ H Q => ∃ m F env h, SR K B m F env h σ H ∧ PostG K xr B Wx m F env σ H (fc env h) (fun q _ _ _ H' => ∃ k, boolO q = some k ∧ Q k H')

theorem lcF_ok {fc : Vars → Hq → R (Option W)} {fe : Vars → Hq → R W} {t : List Nat} {u : Bool} {env : Vars} {w : W} {h h' : Hq} {o : Option W} (e : lcF fc fe t u env w h = .ok o h') :
    ∃ env2 q h1, bindT t u w env = some env2 ∧ fc env2 h = .ok q h1 ∧ ((∃ r, boolO q = some true ∧ fe env2 h1 = .ok r h' ∧ o = some r) ∨ (boolO q = some false ∧ o = none ∧ h' = h1)) := by
  unfold lcF at e
  split at e
  · rename_i env2 hb
    cases hc : fc env2 h with
    | ok q h1 =>
      rw [hc] at e
      simp only [R.bind] at e
      refine ⟨env2, q, h1, hb, hc, ?_⟩
      split at e
      · rename_i hq
        cases he : fe env2 h1 with
        | ok r h2 =>
          rw [he] at e
          simp only [R.bind, R.ok.injEq] at e
          exact .inl ⟨r, hq, by rw [e.2], e.1.symm⟩
        | ex _ _ _ => rw [he] at e; simp [R.bind] at e
        | bad => rw [he] at e; simp [R.bind] at e
      · rename_i hq
        simp only [R.ok.injEq] at e
        exact .inr ⟨hq, e.1.symm, e.2.symm⟩
      · cases e
    | ex _ _ _ => rw [hc] at e; simp [R.bind] at e
    | bad => rw [hc] at e; simp [R.bind] at e
  · cases e
theorem lcGo_cons {f : W → Hq → R (Option W)} {w : W} {ws rs : List W} {h hz : Hq} (e : lcGo f (w :: ws) h = .ok rs hz) : ∃ o h' rs', f w h = .ok o h' ∧ lcGo f ws h' = .ok rs' hz ∧ rs = o.toList ++ rs' := by
  unfold lcGo at e
  cases hf : f w h with
  | ok o h' =>
    rw [hf] at e
    simp only [R.bind] at e
    cases hg : lcGo f ws h' with
    | ok rs' h2 =>
      rw [hg] at e
      simp only at e
      cases o with
      | some r => simp only [R.ok.injEq] at e; exact ⟨some r, h', rs', rfl, by rw [hg, e.2], e.1.symm⟩
      | none => simp only [R.ok.injEq] at e; exact ⟨none, h', rs', rfl, by rw [hg, e.2], e.1.symm⟩
    | ex _ _ _ => rw [hg] at e; simp at e
    | bad => rw [hg] at e; simp at e
  | ex _ _ _ => rw [hf] at e; simp [R.bind] at e
  | bad => rw [hf] at e; simp [R.bind] at e

section
variable {K : PySem.W.Frag} {xr : XRel} {B : BB} {Wx : WX} {m m1 : List Addr} {F F1 H H1 : Hp} {env : Vars} {h : Hq} {σ : L2.St} {Q : VK} {D : Addr}
theorem HR.adopt (r : HR K B.c m F h H) {u : HO} (fp : F D = none) (mp : D ∉ m) (e : H D = some u) : HR K B.c m (upd F D u) h H := by
  refine ⟨r.len, r.nd, fun n o a eo ea => ?_, fun b o eb => ?_, r.there, r.clo⟩
  · have hap : a ≠ D := fun z => mp (z ▸ List.mem_of_getElem? ea)
    exact or_mono (.refl _) (.upd fp) (fun f => by rw [upd_ne hap]; exact f) (fun u e _ => e) (r.ob n o a eo ea)
  · by_cases hb : b = D
    · subst hb; rw [upd_same] at eb; cases eb; exact e
    · rw [upd_ne hb] at eb; exact r.sub b o eb
theorem HR.adoptL (r : HR K B.c m F h H) {o : Ob} (fp : F D = none) (mp : D ∉ m) (hD : H D ≠ none) (ho : OR K (m ++ [D]) F H D o) : HR K B.c (m ++ [D]) F (h ++ [o]) H := by
  have ml : MLe m (m ++ [D]) := ⟨[D], rfl⟩
  refine ⟨by simp [r.len], ?_, fun n q a e ea => ?_, r.sub, fun b hb => ?_, fun c hc => ?_⟩
  · rw [List.nodup_append]
    refine ⟨r.nd, by simp, fun a ha b hb => ?_⟩
    have : b = D := by simpa using hb
    subst this
    exact fun z => mp (z ▸ ha)
  · rcases getElem?_snoc e with ⟨hn, e⟩ | ⟨hn, rfl⟩
    · rw [List.getElem?_append_left (by rw [r.len]; exact hn)] at ea
      exact or_mono ml (.refl _) id (fun u e _ => e) (r.ob n q a e ea)
    · rw [hn, ← r.len] at ea
      simp at ea
      subst ea; exact ho
  · rcases List.mem_append.mp hb with hb | hb
    · exact r.there b hb
    · have : b = D := by simpa using hb
      subst this; exact hD
  · obtain ⟨h1, h2⟩ := r.clo c hc
    refine ⟨by simp; omega, fun n q k hn e hk => ?_⟩
    rw [List.getElem?_append_left (by omega)] at e
    exact h2 n q k hn e hk
/-- the list that a comprehension made -/
theorem lc_end {k : Nat} {rs : List W} {acc : List V} (p : PostG K xr B Wx m1 F1 env σ H1 (lcEnd k rs h) (PV K Q)) (x : Ext m1 F1 H1 m F H) (hD1 : H1 D = none) (s : SR K B m F env h σ H) (fp : F D = none) (mp : D ∉ m) (e : H D = some (.lst acc))
    (r : WRs K m F acc rs) : Q (.ref D) H := by
  have le : HpLe F (upd F D (.lst acc)) := .upd fp
  have frz : ∀ {ds : List PyData}, allD rs = some ds → PostG K xr B Wx m1 F1 env σ H1 (.ok (.d (.list ds)) h) (PV K Q) → Q (.ref D) H := fun {ds} ha p => by
    have x' : Ext m1 F1 H1 m (upd F D (.lst acc)) H := ⟨x.ml, x.sub.trans le, x.frm, x.new, fun a ha hf hh => by
      rw [upd_ne (show a ≠ D from fun z => hh (z ▸ hD1))]; exact x.frf a ha hf hh⟩
    refine p _ _ _ x' ⟨s.hr.adopt fp mp e, s.el, fun i w z q => ?_, fun y hy => let ⟨h1, h2, h3⟩ := s.exv y hy; ⟨h1, h2, y.mono _ _ le h3⟩⟩ _ (.lst sq_new (dps_mono le _ _ (r.toD ha)))
    obtain ⟨v, h1, h2⟩ := s.var i w z q
    exact ⟨v, h1, wr_mono (.refl _) le h2⟩
  have mk : ∀ {o : Ob}, OR K (m ++ [D]) F H D o → PostG K xr B Wx m1 F1 env σ H1 (.ok (.l h.length) (h ++ [o])) (PV K Q) → Q (.ref D) H := fun {o} ho p => by
    have ml : MLe m (m ++ [D]) := ⟨[D], rfl⟩
    have x' : Ext m1 F1 H1 (m ++ [D]) F H := ⟨x.ml.trans ml, x.sub, x.frm, fun a ha hn => by
      rcases List.mem_append.mp ha with ha | ha
      · exact x.new a ha hn
      · have : a = D := by simpa using ha
        subst this; exact hD1, x.frf⟩
    refine p _ _ _ x' ⟨s.hr.adoptL fp mp (by rw [e]; simp) ho, s.el, fun i w z q => ?_, s.exv⟩ _ ⟨D, by rw [← s.hr.len]; simp, rfl⟩
    obtain ⟨v, h1, h2⟩ := s.var i w z q
    exact ⟨v, h1, wr_mono ml (.refl _) h2⟩
  unfold lcEnd at p
  split at p
  · split at p
    · rename_i ds ha
      exact frz ha p
    · exact p.elim
  · split at p
    · rename_i ds ha
      exact mk (o := .lst ds) ⟨fp, acc, e, r.toD ha⟩ p
    · exact p.elim
  · exact mk (o := .lsw rs) ⟨fp, acc, e, wrs_mono ⟨[D], rfl⟩ (.refl _) r⟩ p

theorem SR.other (s : SR K B m F env h σ H) {u : HO} (fp : F D = none) (mp : D ∉ m) : SR K B m F env h σ (upd H D u) := ⟨s.hr.other fp mp, s.el, s.var, s.exv⟩

/-- THE READING of a comprehension -/
theorem lc_read (hx : B.ex = none) {fit : Vars → Hq → R (List W × Option Nat)} {fc : Vars → Hq → R (Option W)} {fe : Vars → Hq → R W} {k : Nat} {t : List Nat} {u : Bool} (ht : t ≠ [])
    (p : tE K xr B Wx (fun env h => (fit env h).bind fun ws h => (noEx (lcGo (fun w h => kpt ws.2 h (lcF fc fe t u env w h)) ws.1 h)).bind fun rs h => lcEnd k rs h) σ H Q) :
    tLc (tI K xr B Wx fit) (gT K t u) (tO K xr B WF fc) (tE K xr B WF fe) t σ H Q := by
  obtain ⟨m0, F0, env, h0, S0, p⟩ := p
  refine ⟨m0, F0, env, h0, S0, p.bind.mono fun wq h1 m1 F1 H1 x1 S1 p J hJ hwl D hD => ?_⟩
  obtain ⟨ws, qq⟩ := wq
  simp only at p hJ hwl
  -- the whole loop ends
  cases hgo : lcGo (fun w h => kpt qq h (lcF fc fe t u env w h)) ws h1 with
  | ex c ds hx => rw [hgo] at p; exact p.elim
  | bad => rw [hgo] at p; exact p.elim
  | ok rest hz =>
  rw [hgo] at p
  have p : PostG K xr B Wx m1 F1 env σ H1 (lcEnd k rest hz) (PV K Q) := p
  have fD1 := S1.hr.freeF hD
  have mD1 := S1.hr.freeM hD
  refine ⟨fun i j H => j = ws.length - i ∧ i ≤ ws.length ∧ ∃ m F h acc rs rs', Ext m1 F1 H1 m F H ∧ SR K B m F env h σ H ∧ F D = none ∧ D ∉ m ∧ H D = some (.lst acc) ∧ WRs K m F acc rs ∧ acc.length ≤ i ∧ kept qq h1 h ∧ lcGo (fun w h => kpt qq h (lcF fc fe t u env w h)) (ws.drop i) h = .ok rs' hz ∧ rest = rs ++ rs', ⟨ws.length, by simp, Nat.zero_le _, m1, F1, h1, [], [], rest, ?_, S1.other fD1 mD1, fD1, mD1, upd_same, .nil, Nat.le_refl _, .refl, hgo, rfl⟩, ?_⟩
  · exact ⟨.refl _, .refl _, fun a o e _ => by rw [upd_ne (ne_of_none e hD)]; exact e, fun _ a b => absurd a b, fun _ _ f _ => f⟩
  rintro i j H ⟨rfl, hi, m, F, h, acc, rs, rs', x, S, fD, mD, eD, r, hacc, hkp, hg, er⟩
  obtain ⟨it1, it2⟩ := hJ B i m F h H x.ml x.sub S.hr hkp
  by_cases hlt : i < ws.length
  · have ed : ws.drop i = ws[i] :: ws.drop (i + 1) := List.drop_eq_getElem_cons hlt
    rw [ed] at hg
    obtain ⟨o, h', rs2, hf, hg2, ers⟩ := lcGo_cons hg
    obtain ⟨hf, hkt⟩ := kpt_ok hf
    obtain ⟨env2, q, hq1, hb, hc, alt⟩ := lcF_ok hf
    obtain ⟨go, yl⟩ := it1 ws[i] (by simp [hlt])
    refine .inr ⟨go, fun H' => ∃ j', j' < ws.length - i ∧ j' = ws.length - (i + 1) ∧ i + 1 ≤ ws.length ∧ ∃ m F h acc rs rs', Ext m1 F1 H1 m F H' ∧ SR K B m F env h σ H' ∧ F D = none ∧ D ∉ m ∧ H' D = some (.lst acc) ∧ WRs K m F acc rs ∧ acc.length ≤ i + 1 ∧
      kept qq h1 h ∧ lcGo (fun w h => kpt qq h (lcF fc fe t u env w h)) (ws.drop (i + 1)) h = .ok rs' hz ∧ rest = rs ++ rs', fun H' n => ?_, fun y H' hy => ?_⟩
    · obtain ⟨j', a, b, c, d⟩ := n
      exact ⟨j', a, b, c, d⟩
    obtain ⟨eH, ry⟩ := yl y H' hy
    subst eH
    -- the target
    refine bind_ok' hx (K := K) (B := B) (m := m) (F := F) (h := h) (env := env) (vs := t) hb ry S (fun _ z => z) (.inr fun _ z => z) fun σ2 S2 hw => ⟨hw ht, ?_⟩
    -- the test
    refine ⟨m, F, env2, h, S2, ?_⟩
    show PostG K xr B WF m F env2 σ2 H' (fc env2 h) _
    rw [hc]
    intro m3 F3 H3 x3 S3
    have HD : H' D ≠ none := by rw [eD]; simp
    have nD : ∀ {m4 : List Addr} {F4 H4 : Hp}, Ext m F H' m4 F4 H4 → F4 D = none ∧ D ∉ m4 ∧ H4 D = some (.lst acc) := fun {m4 F4 H4} x4 =>
      ⟨x4.frf D mD fD HD, fun z => HD (x4.new D z mD), x4.frm D _ eD mD⟩
    have back : ∀ {m4 : List Addr} {F4 H4 : Hp} {h4 : Hq}, Ext m F H' m4 F4 H4 → SR K B m4 F4 env2 h4 σ2 H4 → SR K B m4 F4 env h4 σ H4 := fun {m4 F4 H4 h4} x4 S4 => S.ext S4.hr x4
    rcases alt with ⟨y, hk, hee, rfl⟩ | ⟨hk, rfl, rfl⟩
    · refine ⟨true, hk, iteT ⟨m3, F3, env2, hq1, S3, ?_⟩⟩
      show PostG K xr B WF m3 F3 env2 σ2 H3 (fe env2 hq1) _
      rw [hee]
      intro m4 F4 H4 x4 S4 z rz
      have x34 := x3.trans x4
      obtain ⟨f4, n4, e4⟩ := nD x34
      have S5 := back x34 S4
      refine ⟨acc, e4, by omega, ws.length - (i + 1), by omega, rfl, hlt, m4, F4, h', acc ++ [z], rs ++ [y], rs2, ?_, S5.other f4 n4, f4, n4, upd_same, (wrs_mono x34.ml x34.sub r).app (.cons rz .nil), by simp; omega, hkp.trans hkt, hg2, ?_⟩
      · have x5 := x.trans x34
        refine ⟨x5.ml, x5.sub, fun a o e hn => ?_, x5.new, x5.frf⟩
        rw [upd_ne (ne_of_none e hD)]; exact x5.frm a o e hn
      · rw [er, ers]; simp
    · obtain ⟨f4, n4, e4⟩ := nD x3
      refine ⟨false, hk, iteF ⟨ws.length - (i + 1), by omega, rfl, hlt, m3, F3, h', acc, rs, rs2, x.trans x3, back x3 S3, f4, n4, e4, wrs_mono x3.ml x3.sub r, by omega, hkp.trans hkt, hg2, by rw [er, ers]; simp⟩⟩
  · have ei : i = ws.length := by omega
    subst ei
    rw [List.drop_length] at hg
    simp only [lcGo, R.ok.injEq] at hg
    obtain ⟨rfl, rfl⟩ := hg
    rw [er, List.append_nil] at p
    exact .inl ⟨it2 (Nat.le_refl _), lc_end p x hD S fD mD eD r⟩
end
end
end Ev

/-! EvG: subscripts, slices, built-in functions and methods, calls. -/
namespace Ev
open PySem PySem.Spec L2

section
variable {X : Cx} {xr : XRel} {B : BB} {Wx : WX} [Wd]
theorem atZ_get {xs : List PyData} {vs : List V} {F : Hp} {k : Int} {d : PyData} (h : DpAll X.K F vs xs) (e : atZ xs k = some d) : ∃ v, L2.atI vs k = some v ∧ Dp X.K F v d := by
  unfold atZ L2.atI at e
  unfold L2.atI
  rw [h.length]
  cases hi : L2.ixN xs.length k with
  | none => rw [hi] at e; cases e
  | some j =>
    rw [hi] at e
    obtain ⟨v, h1, h2⟩ := h.get (show xs[j]? = some d from e)
    exact ⟨v, h1, h2⟩
theorem atZ_getW {ws : List W} {vs : List V} {m : List Addr} {F : Hp} {k : Int} {w : W} (h : WRs X.K m F vs ws) (e : atZ ws k = some w) : ∃ v, L2.atI vs k = some v ∧ WR X.K m F v w := by
  unfold atZ L2.atI at e
  unfold L2.atI
  rw [h.length]
  cases hi : L2.ixN ws.length k with
  | none => rw [hi] at e; cases e
  | some j =>
    rw [hi] at e
    obtain ⟨v, h1, h2⟩ := h.get (show ws[j]? = some w from e)
    exact ⟨v, h1, h2⟩
theorem liftO_cases {m : List Addr} {F H : Hp} {env : Vars} {h : Hq} {σ : L2.St} {Q : VK} {o : Option PyData} (p : PostE X.K xr B Wx m F env σ H (liftO o h) Q) : ∃ d, o = some d ∧ PostE X.K xr B Wx m F env σ H (.ok (.d d) h) Q := by
  cases o with
  | none => exact p.elim
  | some d => exact ⟨d, rfl, p⟩
theorem ix_E (hw : X.w = Wd.w) (hu : X.A.units + 200 < cLine) : IxR X (rOp X.K xr B Wx (fun a i h => evIdx h a i)) := by
  intro value slice pins s σ H x y v u Q I rx ry hq hs
  obtain ⟨m, F, env, h, σ', w1, w2, S, r1, r2, p⟩ := hq
  have int : ∀ {k : Int}, w2 = .d (.int k) → y = .int k := fun {k} e => by
    subst e
    have r2 : Dp X.K F y (.int k) := r2
    cases r2; rfl
  simp only [evIdx] at p
  split at p
  · rename_i xs k
    cases int rfl
    obtain ⟨d, e, p⟩ := liftO_cases p
    obtain ⟨a, vs, rfl, sq, dd⟩ : ∃ a vs, x = .ref a ∧ SqL X.K F a vs ∧ DpAll X.K F vs xs := by
      have r1 : Dp X.K F x (.list xs) := r1
      cases r1 with
      | lst h1 h2 => exact ⟨_, _, rfl, h1, h2⟩
    obtain ⟨z, hz, rz⟩ := atZ_get dd e
    exact ix_list value slice pins s σ H _ _ v u Q I rx ry ⟨a, vs, k, z, rfl, rfl, S.hr.sub.sql sq, hz, PostE.now p S rz⟩ hs
  · rename_i xs k
    cases int rfl
    obtain ⟨d, e, p⟩ := liftO_cases p
    obtain ⟨a, vs, rfl, sq, dd⟩ : ∃ a vs, x = .ref a ∧ SqT X.K F a vs ∧ DpAll X.K F vs xs := by
      have r1 : Dp X.K F x (.tuple xs) := r1
      cases r1 with
      | tup h1 h2 => exact ⟨_, _, rfl, h1, h2⟩
    obtain ⟨z, hz, rz⟩ := atZ_get dd e
    exact ix_tup value slice pins s σ H _ _ v u Q I rx ry ⟨a, vs, k, z, rfl, rfl, S.hr.sub.sqt sq, hz, PostE.now p S rz⟩ hs
  · rename_i z k
    cases int rfl
    obtain rfl : x = .str z := by
      have r1 : Dp X.K F x (.str z) := r1
      cases r1; rfl
    split at p
    · rename_i hl
      split at p
      · rename_i c e
        exact ix_str value slice pins s σ H _ _ v u Q I rx ry ⟨z, k, c, rfl, rfl, by rw [← sz_eq]; exact hl, e, PostE.now p S (.str _)⟩ hs
      · exact p.elim
    · exact p.elim
  · rename_i n k
    cases int rfl
    obtain ⟨a, em, rfl⟩ := r1
    split at p
    · rename_i xs eo
      obtain ⟨f, vs, eH, dd⟩ := S.hr.ob n _ a eo em
      obtain ⟨d, e, p⟩ := liftO_cases p
      obtain ⟨z, hz, rz⟩ := atZ_get dd e
      exact ix_list value slice pins s σ H _ _ v u Q I rx ry ⟨a, vs, k, z, rfl, rfl, .of eH, hz, PostE.now p S rz⟩ hs
    · rename_i ws eo
      obtain ⟨f, vs, eH, dd⟩ := S.hr.ob n _ a eo em
      split at p
      · rename_i w e
        obtain ⟨z, hz, rz⟩ := atZ_getW dd e
        exact ix_list value slice pins s σ H _ _ v u Q I rx ry ⟨a, vs, k, z, rfl, rfl, .of eH, hz, PostE.now p S rz⟩ hs
      · exact p.elim
    · rename_i kvs eo
      obtain ⟨f, vs, eH, di, hl⟩ := S.hr.ob n _ a eo em
      obtain ⟨d, e, p⟩ := liftO_cases p
      have g := di.get k
      rw [e] at g
      obtain ⟨z, e1, dz⟩ := g
      cases rx
      have dg : DGet H a (.int k) (some z) := e1 ▸ DGet.k (k := .inl k) eH
      exact PyProof.Rows.tail_any (dict_typeIs I dg) PySem.F.slot_dict_getitem.lookup (d_getItem (by show X.A.units + 1 < cLine; omega) I dg ry fun w' s' I' rz => ⟨z, H, I', rz, PostE.now p S dz⟩) hs
    · exact p.elim
  · rename_i n k _
    obtain ⟨a, em, rfl⟩ := r1
    split at p
    · rename_i kvs eo
      obtain ⟨fa, es, eH, dk, nd, hz, hl⟩ := S.hr.ob n _ a eo em
      split at p
      · rename_i hk
        obtain ⟨xs, nk, rfl, ek, hd⟩ := isKey_ok hk
        have r2 : Dp X.K F y (.tuple xs) := r2
        have r2' := r2
        obtain ⟨d, e, p⟩ := liftO_cases p
        cases r2 with
        | tup h1 h2 =>
          cases rx
          cases ry
          have dd := dk_of hw I S.hr.sub eH dk nd
          have g := dk.get ek
          rw [e] at g
          obtain ⟨pv, z, e1, rz, dz⟩ := g
          exact PyProof.Rows.tail_any dd.typeIs PySem.F.slot_dict_getitem.lookup (wpAny_getItem_heap (dk_room hu) (dk_is I S.hr.sub ek hd r2') dd e1 ⟨z, H, I.tok _, rz, PostE.now p S dz⟩) hs
      · exact p.elim
    · exact p.elim
  · exact p.elim

theorem cut_len {α : Type} (xs : List α) (lo hi : Option Int) : (cutL xs lo hi).length ≤ xs.length := by
  unfold cutL; rw [List.length_take, List.length_drop]; omega
theorem cut_dp {F : Hp} {vs : List V} {ds : List PyData} (h : DpAll X.K F vs ds) (lo hi : Option Int) : DpAll X.K F (cutV vs lo hi) (cutL ds lo hi) := by
  unfold cutV cutL
  rw [h.length]
  exact (h.drop _).take _
theorem cut_all {α : Type} {xs : List α} {lo hi : Option Int} (h1 : HT.sIx xs.length 0 lo = 0) (h2 : HT.sIx xs.length xs.length hi = xs.length) : cutL xs lo hi = xs := by
  unfold cutL
  rw [h1, h2]
  simp
/-- the reading of a slice -/
def rSlE (K : PySem.W.Frag) (xr : XRel) (B : BB) (Wx : WX) : V → Option Int → Option Int → Hp → VK → Prop := fun x lo hi H Q => ∃ m F env h σ w, SR K B m F env h σ H ∧ WR K m F x w ∧
  PostE K xr B Wx m F env σ H (evSlc h w lo hi) Q
theorem sl_E : SlR X (rSlE X.K xr B Wx) := by
  intro pins s σ H x v vl vu lo hi sl Q I rx hs pl pu hq
  obtain ⟨m, F, env, h, σ', w, S, r, p⟩ := hq
  simp only [evSlc] at p
  split at p
  · rename_i xs e
    obtain ⟨a, vs, rfl, sq, dd⟩ := (now_of S.hr r e).list S.hr.sub
    exact sl_list pins s σ H _ v vl vu lo hi sl Q I rx hs pl pu ⟨a, vs, rfl, sq, fun q hq => PostE.newF p S hq (dp_newL S.hr hq (cut_dp dd lo hi))⟩
  · rename_i xs e
    obtain ⟨a, vs, rfl, sq, dd, dx⟩ := (now_of S.hr r e).tuple S.hr.sub
    refine sl_tupA pins s σ H _ v vl vu lo hi sl Q I rx hs pl pu ⟨a, vs, rfl, sq, fun hw => PostE.now p S ?_, fun _ q hq => PostE.newF p S hq (dp_newT S.hr hq (cut_dp dd lo hi))⟩
    rw [dd.length] at hw
    show Dp X.K F _ (.tuple (cutL xs lo hi))
    rw [cut_all hw.1 hw.2]
    exact dx
  · exact p.elim
/-- the reading of a built-in's call -/
def rB (K : PySem.W.Frag) (xr : XRel) (B : BB) (Wx : WX) (f : List W → Hq → R W) : List V → Hp → VK → Prop := fun xs H Q => ∃ m F env h σ ws, SR K B m F env h σ H ∧ WRs K m F xs ws ∧ PostE K xr B Wx m F env σ H (f ws h) Q

theorem one_of {m : List Addr} {F : Hp} {xs : List V} {w : W} (h : WRs X.K m F xs [w]) : ∃ v, xs = [v] ∧ WR X.K m F v w := by
  cases h with
  | cons h1 h2 => cases h2; exact ⟨_, rfl, h1⟩
theorem cr_len : CallR X (.builtin "len") (rB X.K xr B Wx (evB .len)) := by
  intro pins s σ H xs us Q I rs hq
  obtain ⟨m, F, env, h, σ', ws, S, r, p⟩ := hq
  match ws, r, p with
  | [w], r, p =>
    obtain ⟨v, rfl, r'⟩ := one_of r
    simp only [evB] at p
    split at p
    · rename_i n e
      have q : Q (.int n) H := PostE.now p S (.int _)
      cases w with
      | x _ _ => exact r'.elim
      | d x =>
        cases x <;> simp only [evLen, reduceCtorEq] at e
        case list ds =>
          cases e
          obtain ⟨a, vs, rfl, sq, dd⟩ : ∃ a vs, v = .ref a ∧ SqL X.K F a vs ∧ DpAll X.K F vs ds := by
            have r'' : Dp X.K F v (.list ds) := r'
            cases r'' with
            | lst h1 h2 => exact ⟨_, _, rfl, h1, h2⟩
          refine call_len_seq pins s σ H _ us Q I rs ⟨a, vs, rfl, .inl (S.hr.sub.sql sq), ?_⟩
          rw [dd.length]; exact q
        case tuple ds =>
          cases e
          obtain ⟨a, vs, rfl, sq, dd⟩ : ∃ a vs, v = .ref a ∧ SqT X.K F a vs ∧ DpAll X.K F vs ds := by
            have r'' : Dp X.K F v (.tuple ds) := r'
            cases r'' with
            | tup h1 h2 => exact ⟨_, _, rfl, h1, h2⟩
          refine call_len_seq pins s σ H _ us Q I rs ⟨a, vs, rfl, .inr (S.hr.sub.sqt sq), ?_⟩
          rw [dd.length]; exact q
        case str z =>
          split at e
          · rename_i hz
            cases e
            obtain rfl : v = .str z := by
              have r'' : Dp X.K F v (.str z) := r'
              cases r''; rfl
            exact call_len_str pins s σ H _ us Q I rs ⟨z, rfl, by rw [← sz_eq]; exact hz, q⟩
          · cases e
      | l k =>
        obtain ⟨a, em, rfl⟩ := r'
        simp only [evLen] at e
        split at e
        · rename_i xs eo
          cases e
          obtain ⟨f, vs, eH, dd⟩ := S.hr.ob k _ a eo em
          refine call_len_seq pins s σ H _ us Q I rs ⟨a, vs, rfl, .inl (.of eH), ?_⟩
          rw [dd.length]; exact q
        · rename_i xs eo
          cases e
          obtain ⟨f, vs, eH, dd⟩ := S.hr.ob k _ a eo em
          refine call_len_seq pins s σ H _ us Q I rs ⟨a, vs, rfl, .inl (.of eH), ?_⟩
          rw [dd.length]; exact q
        · cases e
    · exact p.elim
  | [], _, p => exact p.elim
  | _ :: _ :: _, _, p => exact p.elim
theorem cr_tuple : CallR X (.type "tuple") (rB X.K xr B Wx (evB .tuple)) := by
  intro pins s σ H xs us Q I rs hq
  obtain ⟨m, F, env, h, σ', ws, S, r, p⟩ := hq
  match ws, r, p with
  | [w], r, p =>
    obtain ⟨v, rfl, r'⟩ := one_of r
    simp only [evB] at p
    obtain ⟨d, e, p⟩ := liftO_cases p
    rw [Option.map_eq_some_iff] at e
    obtain ⟨xs, e, rfl⟩ := e
    rw [Option.bind_eq_some_iff] at e
    obtain ⟨dx, e1, e2⟩ := e
    cases dx <;> simp only [seqOf, reduceCtorEq] at e2
    case list ds =>
      cases e2
      obtain ⟨a, vs, rfl, sq, dd⟩ := (now_of S.hr r' e1).list S.hr.sub
      exact call_tuple_of pins s σ H _ us Q I rs ⟨a, vs, rfl, .inl ⟨sq, fun q hq => PostE.newF p S hq (dp_newT S.hr hq dd)⟩⟩
    case tuple ds =>
      cases e2
      obtain ⟨a, vs, rfl, sq, dd, dx⟩ := (now_of S.hr r' e1).tuple S.hr.sub
      exact call_tuple_of pins s σ H _ us Q I rs ⟨a, vs, rfl, .inr ⟨sq, PostE.now p S dx⟩⟩
  | [], _, p => exact p.elim
  | _ :: _ :: _, _, p => exact p.elim
theorem cr_list : CallR X (.type "list") (rB X.K xr B Wx (evB .list)) := by
  intro pins s σ H xs us Q I rs hq
  obtain ⟨m, F, env, h, σ', ws, S, r, p⟩ := hq
  match ws, r, p with
  | [w], r, p =>
    obtain ⟨v, rfl, r'⟩ := one_of r
    simp only [evB] at p
    obtain ⟨d, e, p⟩ := liftO_cases p
    rw [Option.map_eq_some_iff] at e
    obtain ⟨xs, e, rfl⟩ := e
    rw [Option.bind_eq_some_iff] at e
    obtain ⟨dx, e1, e2⟩ := e
    cases dx <;> simp only [seqOf, reduceCtorEq] at e2
    case list ds =>
      cases e2
      obtain ⟨a, vs, rfl, sq, dd⟩ := (now_of S.hr r' e1).list S.hr.sub
      exact call_list_of pins s σ H _ us Q I rs ⟨a, vs, rfl, .inl sq, fun q hq => PostE.newF p S hq (dp_newL S.hr hq dd)⟩
    case tuple ds =>
      cases e2
      obtain ⟨a, vs, rfl, sq, dd, dx⟩ := (now_of S.hr r' e1).tuple S.hr.sub
      exact call_list_of pins s σ H _ us Q I rs ⟨a, vs, rfl, .inr sq, fun q hq => PostE.newF p S hq (dp_newL S.hr hq dd)⟩
  | [], _, p => exact p.elim
  | _ :: _ :: _, _, p => exact p.elim
theorem cr_int : CallR X (.type "int") (rB X.K xr B Wx (evB .int)) := by
  intro pins s σ H xs us Q I rs hq
  obtain ⟨m, F, env, h, σ', ws, S, r, p⟩ := hq
  match ws, r, p with
  | [.d (.int i)], r, p =>
    obtain ⟨v, rfl, r'⟩ := one_of r
    have r'' : Dp X.K F v (.int i) := r'
    cases r''
    exact call_int1 pins s σ H _ us Q I rs (.inl ⟨i, rfl, PostE.now p S (.int _)⟩)
  | [.d (.bool k)], r, p =>
    obtain ⟨v, rfl, r'⟩ := one_of r
    have r'' : Dp X.K F v (.bool k) := r'
    cases r''
    exact call_int1 pins s σ H _ us Q I rs (.inr ⟨k, rfl, PostE.now p S (.int _)⟩)
  | [.d .none], _, p => exact p.elim
  | [.d (.str _)], _, p => exact p.elim
  | [.d (.list _)], _, p => exact p.elim
  | [.d (.tuple _)], _, p => exact p.elim
  | [.d (.dict _)], _, p => exact p.elim
  | [.l _], _, p => exact p.elim
  | [], _, p => exact p.elim
  | _ :: _ :: _, _, p => exact (show False by simpa [evB, PostG] using p).elim
theorem ints_vs {F : Hp} : ∀ {ds : List PyData} {vs : List V} {ns : List Int}, DpAll X.K F vs ds → intsOf ds = some ns → vs = ns.map V.int
  | [], _, _, h, e => by cases h; simp [intsOf] at e; subst e; rfl
  | d :: ds, _, _, h, e => by
    cases h with
    | cons h1 h2 =>
      cases d <;> simp only [intsOf, reduceCtorEq] at e
      rw [Option.map_eq_some_iff] at e
      obtain ⟨ns, e, rfl⟩ := e
      cases h1
      rw [ints_vs h2 e]
      rfl
theorem mt_cnt (hu : X.A.units + 200 < cLine) : MtR X "list.count" (fun x xs H Q => ∃ m F env h σ w ws, SR X.K B m F env h σ H ∧ WR X.K m F x w ∧ WRs X.K m F xs ws ∧ PostE X.K xr B Wx m F env σ H (evM .count w ws h) Q) := by
  intro pins s σ H x xs v us Q I rx rxs hq
  obtain ⟨m, F, env, h, σ', w, ws, S, r, rs, p⟩ := hq
  match ws, rs, p with
  | [.d z], rs, p =>
    simp only [evM] at p
    split at p
    · rename_i ys e
      split at p
      · rename_i hd
        obtain ⟨y, rfl, ry⟩ := one_of rs
        obtain ⟨a, vs, rfl, sq, dd⟩ := (now_of S.hr r e).list S.hr.sub
        obtain ⟨uy, rfl, ruy⟩ := vals1 rxs
        cases rx
        obtain ⟨its, rv, ⟨o, n, ho, hc, _, hdd⟩, _⟩ := I.list sq
        have dd' : DpAll X.K H vs ys := dps_mono S.hr.sub _ _ dd
        obtain ⟨as, h4⟩ := Dp.readsAll I ys vs its dd' rv
        have ry1 : Dp X.K F y z := ry
        have ry' : Dp X.K H y z := dp_mono S.hr.sub _ _ ry1
        obtain ⟨bs, h5⟩ := Dp.reads I z y uy ry' ruy
        have := of_decide_eq_true hd
        refine SeqAt.count_list_data (vs := its.toArray) ⟨o, ho, hc, n, hdd⟩ (by simpa using h4) h5 (dps_plain _ _ dd') (dp_plain _ _ ry') (by omega) ?_
        exact ⟨.int _, H, I.tok _, ⟨_, rfl⟩, PostE.now p S (.int _)⟩
      · exact p.elim
    · exact p.elim
  | [.l _], _, p => exact p.elim
  | [], _, p => exact p.elim
  | _ :: _ :: _, _, p => exact (show False by simpa [evM, PostG] using p).elim
end
end Ev

/-! EvU: promises of defs that are called with no guard in force (for repr). -/
namespace Ev
open PySem PySem.Spec L2
/-- as FnOk, asked only where no repr is under way -/
structure FnG (P : Program) (w : World) (K : PySem.W.Frag) (mg : Str → Option Value) (base : Heap) (CX : CXT) (k : Nat) (f : Addr) (fd : FuncData) (ps : List Str) (sp : Sp) : Prop where
  lenG : ∀ ys G Z D, sp ys G Z D → ys.length = ps.length
  runG : ∀ (A : Around), A.guards = some [] → ∀ (fr : List Env) (s : Shared) (G : Hp) (args : Args) (zs : List Value) (ys : List V) (Z : VK) (D : XK), Room k A → Env0 P w K mg base A fr s G → BindsTo s fd args (ps.zip zs) → Vals ys zs → sp ys G Z D →
    codeAny (model P w) A (.call (.ref f) args) (CR CX fr P w G s Z D) s
section
variable {X : Cx} {CX : CXT} {k : Nat} {f : Addr} {fd : FuncData} {ps : List Str} {sp : Sp} {E : St → XK} {x : Str} {p pos : Pos} {e : Expr} {es : List Expr} {t : TA}
/-- the callee at work -/
theorem workG {Z : VK} {pins : List (Addr × Obj)} {σ : L2.St} {G : Hp} {s : Shared} {zs : List Value} {ys : List V} (F : FnG X.prog X.w X.K X.mg X.base CX k f fd ps sp) (gd : X.A.guards = some []) (room : Room k X.A) (bd : Binds X.K fd ps []) (pa : PassesAt CX X σ (E σ))
    (J : Inv X pins σ G s) (rel : Vals ys zs) (q : sp ys G Z (E σ)) : wpAny (model X.prog X.w) X.A (call (.ref f) zs) (EP X pins σ Z) X.xe s := by
  have hz : zs.length = ps.length := rel.length ▸ F.lenG _ _ _ _ q
  have bt : BindsTo s fd ⟨zs, []⟩ (ps.zip zs) := by
    have := bd s zs J.kIn (by simpa using hz)
    simpa using this
  refine wpAny_call (codeAny_mono (F.runG X.A gd X.stack s G ⟨zs, []⟩ zs ys Z (E σ) room J.env0 bt rel q) fun res s2 o => ?_)
  match res, o with
  | .error ex, o => exact pa pins G s ex s2 J o
  | .ok (.ret u), o => exact J.after o
/-- f(a, ..) where no repr is under way -/
theorem pe_callG (F : FnG X.prog X.w X.K X.mg X.base CX k f fd ps sp) (gd : X.A.guards = some []) (room : Room k X.A) (gl : Gl X x) (m : X.mg x = some (.ref f)) (kp : PySem.W.keepIn X.K (.ref f) = true) (bd : Binds X.K fd ps []) (pa : ∀ σ, PassesAt CX X σ (E σ)) (args : PA X (e :: es) t)
    (nd : (x == ("__debug__" : Str)) = false) (st : starEach (e :: es) X.env = (false, eval e X.env) :: starEach es X.env) (ns : (backTo pos (starEach es X.env)).any (·.1) = false) : PE X (.Call (.Name x p) (e :: es) [] pos) (tCallS sp E t) := by
  refine ⟨fun pins s σ G Z J q => wpAny_Call_Name_kw (ld_glob J gl m ?_ nd)⟩
  refine PySem.W.callWith_K (h₀ := X.base) J.ok.mod.kin kp (thn (args.run pos pins s σ G _ J q) fun zs s1 o => ?_) st ns
  obtain ⟨ys, G1, J1, rel, q1⟩ := o
  exact ⟨J1.kIn, workG F gd room bd (pa σ) J1 rel q1⟩
/-- f() where no repr is under way -/
theorem pe_call0G (F : FnG X.prog X.w X.K X.mg X.base CX k f fd ps sp) (gd : X.A.guards = some []) (room : Room k X.A) (gl : Gl X x) (m : X.mg x = some (.ref f)) (kp : PySem.W.keepIn X.K (.ref f) = true) (bd : Binds X.K fd ps []) (pa : ∀ σ, PassesAt CX X σ (E σ))
    (nd : (x == ("__debug__" : Str)) = false) : PE X (.Call (.Name x p) [] [] pos) (fun σ G Z => sp [] G Z (E σ)) := by
  refine ⟨fun pins s σ G Z J q => wpAny_Call_Name_kw (ld_glob J gl m ?_ nd)⟩
  exact PySem.W.callWith_K0 J.kIn kp (workG F gd room bd (pa σ) J .nil q)
end
end Ev

/-! EvH: an expression's value is what the layer's reading asks (sndE). -/
namespace Ev
open PySem PySem.Spec L2
variable [Wd]

/-- what a def promises: as callN says -/
def spF (K : PySem.W.Frag) (xr : XRel) (T : List FD) (n f : Nat) : Sp := fun vs H Q E => ∃ fd, T[f]? = some fd ∧ vs.length = fd.np ∧ ∃ (B : List Nat) (b : Nat) (m : List Addr) (F : Hp) (ws : List W) (h : Hq), b ∈ B ∧ (∀ c ∈ B, c ≤ b) ∧ HR K B m F h H ∧ WRs K m F vs ws ∧
  match callN T n b f ws h with
  | .ok w h' => ∀ v m' F' H', Ext m F H m' F' H' → HR K B m' F' h' H' → WR K m' F' v w → Q v H'
  | .ex c ds h' => ∀ m' F' H' cls dx, Ext m F H m' F' H' → HR K B m' F' h' H' → xr c ds cls dx F' H' → E cls dx H'
  | .bad => False

def bnames : List Str := ["len", "tuple", "int", "sum", "max", "min", "all", "any", "sorted", "list", "repr", "str", "range", "set", "isinstance", "zip", "dict", "bool"]
/-- the class that a name of an own one stands for -/
abbrev cA (K : PySem.W.Frag) (d : CDef) : Addr := He.ga K d.nm
def cV (K : PySem.W.Frag) (d : CDef) : Value := if d.own then .ref (cA K d) else .type "ValueError"
/-- what must be known of the classes of exceptions -/
structure ClsOk (K : PySem.W.Frag) (mg : Str → Option Value) (cl : List CDef) (c : Nat) (d : CDef) : Prop where
  gC : mg d.nm = some (.ref (cA K d))
  kC : PySem.W.keepIn K (.ref (cA K d)) = true
  xC : d.fl = [] → PySem.W.excIn K (cA K d) He.veBase "ValueError.__new__" = true
  sC : PySem.W.subIn K (.ref (cA K d)) (.type "BaseException") = some true
  tC : PySem.W.typeIn K (.ref (cA K d)) = some (.type "type")
  iC : L2.ExcC K (cA K d)
  fN : d.fl.Nodup
  fF : ∀ f ∈ d.fl, PySem.W.findIn K (.ref (cA K d)) f = some none
  exm : ∀ (j : Nat) (e : CDef), cl[j]? = some e → e.own = true → PySem.W.exmOne K (.ref (cA K d)) (.ref (cA K e)) = some (e.subs.contains c)
  kit : ∀ (j : Nat) (e : CDef), cl[j]? = some e → PySem.W.kitOne K (.ref (cA K d)) (cV K e) = some (e.subs.contains c)
/-- what is told of an exception -/
def xrC (K : PySem.W.Frag) (cl : List CDef) : XRel := fun c ds cls dx F _ => ∃ d, cl[c]? = some d ∧ d.own = true ∧ cls = .ref (cA K d) ∧ ds.length = d.fl.length ∧
  ((d.fl = [] ∧ dx = none) ∨ ∃ (a : Addr) (vs : List V), dx = some a ∧ F a = some (.xd (d.fl.zip vs)) ∧ DpAll K F vs ds)
theorem xrC_mono {K : PySem.W.Frag} {cl : List CDef} {c : Nat} {ds : List PyData} {cls : Value} {dx : Option Addr} {F F' H H' : Hp} (le : HpLe F F') (h : xrC K cl c ds cls dx F H) : xrC K cl c ds cls dx F' H' := by
  obtain ⟨d, h1, h2, h3, h4, h5⟩ := h
  refine ⟨d, h1, h2, h3, h4, h5.imp id ?_⟩
  rintro ⟨a, vs, e1, e2, e3⟩
  exact ⟨a, vs, e1, le _ _ e2, dps_mono le _ _ e3⟩
/-- the exception that a suite holds -/
def ExOk (X : Cx) (cl : List CDef) (e : ExI) : Prop := ∃ (X0 : Cx) (oe : Obj) (pn : List (Addr × Obj)) (cls : Value) (dx : Option Addr), X = X0.suite e.a ((e.a, oe) :: pn) ∧ Zc cls dx oe ∧ (∃ vs, oe.data = .fields vs) ∧ ∀ F, e.R F → xrC X.K cl e.n e.ds cls dx F F
/-- what must be known where a term is read -/
structure XOk (X : Cx) (Wx : WX) (M : ME) (xr : XRel) (T : List FD) (n : Nat) (B : BB) (sc : Scope) : Prop where
  calm : X.calm = M.cm
  nd : X.N.Nodup
  hN : X.N = M.N
  hs : X.env.scope = sc
  tk : Takes X Wx
  hu : X.A.units + 200 < cLine
  hw : X.w = Wd.w
  gd : X.A.guards = some []
  room : M.cm = true → Room n X.A
  bl : ∀ x ∈ bnames, X.mg x = none
  gls : ∀ x i, (x, i) ∈ M.gi → ∃ t, X.mg x = some (.int i t)
  glz : ∀ x z, (x, z) ∈ M.gs → ∃ t, X.mg x = some (.str z t)
  fns : ∀ f x, M.fn[f]? = some x → ∃ a fd ps, X.mg x = some (.ref a) ∧ PySem.W.keepIn X.K (.ref a) = true ∧ Binds X.K fd ps [] ∧ FnG X.prog X.w X.K X.mg X.base (L2.CX X.prog X.w) n a fd ps (spF X.K xr T n f)
  xrE : xr = xrC X.K M.cls
  cls : ∀ c d, M.cls[c]? = some d → d.own = true → ClsOk X.K X.mg M.cls c d
  bcl : ∀ d ∈ M.cls, d.own = false → X.mg d.nm = none ∧ d.nm = "ValueError"
  xs : M.xs = B.ex.map (·.i)
  exn : M.cm = true → M.xs = none
  ex : ∀ e, B.ex = some e → ExOk X M.cls e
theorem XOk.noex {X : Cx} {Wx : WX} {M : ME} {xr : XRel} {T : List FD} {n : Nat} {B : BB} {sc : Scope} (k : XOk X Wx M xr T n B sc) (h : M.cm = true) : B.ex = none := by
  have e := k.xs
  rw [k.exn h] at e
  cases q : B.ex with
  | none => rfl
  | some _ => rw [q] at e; cases e
theorem XOk.clm {X : Cx} {Wx : WX} {M : ME} {xr : XRel} {T : List FD} {n : Nat} {B : BB} {sc : Scope} (k : XOk X Wx M xr T n B sc) (h : M.cm = true) : X.calm = true := k.calm.trans h

structure SE (X : Cx) (xr : XRel) (B : BB) (Wx : WX) (r : Vars → Hq → R W) (p : Expr) : Prop where
  pe : PE X p (tE X.K xr B Wx r)
  pt : notIf p = true → PT X p (tT X.K xr B Wx r)
  pw : isBO p = true → PW X p (tT X.K xr B Wx r)

theorem gl_of {X : Cx} {sc : Scope} {x : Str} (hs : X.env.scope = sc) (h : isGl sc x = true) : Gl X x := by
  unfold Gl Env.kindOf
  rw [hs]
  exact of_decide_eq_true h
theorem vis_of {sc : Scope} {x : Str} (h : isVis sc x = true) : Vis sc x := by
  unfold isVis at h
  split at h
  · exact .inl (by assumption)
  · exact .inr (.inl (by assumption))
  · exact .inr (.inr (by assumption))
  · cases h
theorem sto_of {sc : Scope} {x : Str} (h : isSto sc x = true) : Loc sc x := by
  unfold isSto at h
  split at h
  · exact .inl (by assumption)
  · exact .inr (by assumption)
  · cases h
theorem plainN_of {x : Str} (h : plainN x = true) : (x == ("__debug__" : Str)) = false ∧ (x == ("__classdict__" : Str)) = false ∧ x ≠ "__name__" := by
  unfold plainN at h
  simp only [Bool.and_eq_true, decide_eq_true_eq] at h
  exact ⟨beq_eq_false_iff_ne.mpr h.1.1, beq_eq_false_iff_ne.mpr h.1.2, h.2⟩

section
variable {X : Cx} {xr : XRel} {B : BB} {Wx : WX}
theorem star1 {p : Expr} {ps : List Expr} {env : Env} (h : notStar p = true) : starEach (p :: ps) env = (false, eval p env) :: starEach ps env := by
  cases p <;> first | rfl | (simp [notStar] at h)
theorem stars_of {M : ME} {sc : Scope} {env : Env} : ∀ {es : Es} {ps : List Expr}, matEs M sc es ps = true → ∀ pos, (backTo pos (starEach ps env)).any (·.1) = false ∧ (backTo pos (starEach ps env)).all (fun x => !x.1) = true
  | .nil, [], _, pos => ⟨rfl, rfl⟩
  | .nil, _ :: _, h, _ => by simp [matEs] at h
  | .cons _ _, [], h, _ => by simp [matEs] at h
  | .cons e es, p :: ps, h, pos => by
    simp only [matEs, Bool.and_eq_true] at h
    rw [star1 h.1.1]
    have ih := stars_of (env := env) h.2 pos
    unfold backTo at ih ⊢
    simp only [List.map_cons, List.any_cons, List.all_cons, Bool.false_or, Bool.not_false, Bool.true_and]
    exact ih
theorem star_head {M : ME} {sc : Scope} {es : Es} {p : Expr} {ps : List Expr} (h : matEs M sc es (p :: ps) = true) : notStar p = true := by
  cases es with
  | nil => simp [matEs] at h
  | cons e es => simp only [matEs, Bool.and_eq_true] at h; exact h.1.1

/-- two values, one operator -/
theorem tOp_read {ra rb : Vars → Hq → R W} {f : W → W → Hq → R W} (σ : L2.St) (H : Hp) (Q : VK) (p : tE X.K xr B Wx (fun env h => (ra env h).bind fun v h => (rb env h).bind fun w h => f v w h) σ H Q) :
    tOp (rOp X.K xr B Wx f) (tE X.K xr B Wx ra) (tE X.K xr B Wx rb) σ H Q := by
  obtain ⟨m, F, env, h, S, p⟩ := p
  refine ⟨m, F, env, h, S, p.bind.mono fun w1 h1 m1 F1 H1 x1 S1 p x r1 => ⟨m1, F1, env, h1, S1, p.bind.mono fun w2 h2 m2 F2 H2 x2 S2 p y r2 => ?_⟩⟩
  exact ⟨m2, F2, env, h2, σ, w1, w2, S2, wr_mono x2.ml x2.sub r1, r2, p⟩
theorem SE.of_plain {r : Vars → Hq → R W} {p : Expr} (h : PE X p (tE X.K xr B Wx r)) (he : ∀ whole, isTrue p X.env whole = (do let v ← whole; standAt p.pos; holding [v] (truthy v))) (hb : isBO p = false) : SE X xr B Wx r p := by
  refine ⟨h, fun _ => (pt_val h he).weak fun σ H Q q => ?_, fun z => by rw [hb] at z; cases z⟩
  obtain ⟨m, F, env, h, S, q⟩ := q
  refine ⟨m, F, env, h, S, q.mono fun w h1 m1 F1 H1 x1 S1 q v rv => ?_⟩
  obtain ⟨k, rfl, q⟩ := q
  have rv : Dp X.K F1 v (.bool k) := rv
  cases rv
  exact ⟨k, rfl, q⟩
theorem tB_of {r : Vars → Hq → R W} (σ : L2.St) (H : Hp) (Q : Bool → Hp → Prop) (q : tT X.K xr B Wx r σ H Q) : tB (tE X.K xr B Wx r) σ H Q := by
  obtain ⟨m, F, env, h, S, q⟩ := q
  refine ⟨m, F, env, h, S, q.mono fun w h1 m1 F1 H1 x1 S1 q v rv => ?_⟩
  obtain ⟨k, rfl, q⟩ := q
  have rv : Dp X.K F1 v (.bool k) := rv
  cases rv
  exact ⟨k, rfl, q⟩
theorem tTest_weak {t t' : TE} (i : ∀ σ H Q, t' σ H Q → t σ H Q) (σ : L2.St) (H : Hp) (Q : Bool → Hp → Prop) (q : tB t' σ H Q) : tTest t σ H Q := i _ _ _ q
end

section
variable {M : ME} {xr : XRel} {T : List FD} {n b : Nat} {B : BB}

theorem bt_gl {X : Cx} {Wx : WX} {sc : Scope} {f : Bt} (k : XOk X Wx M xr T n B sc) : X.mg f.nm = none := k.bl _ (by cases f <;> decide +kernel)

/-- a term that stands for the text's piece -/
def SndE (M : ME) (xr : XRel) (T : List FD) (n b : Nat) (B : BB) (e : E) : Prop := ∀ (X : Cx) (Wx : WX) (sc : Scope) (p : Expr), XOk X Wx M xr T n B sc → matE M sc e p = true → SE X xr B Wx (evE b (callN T n) e) p
def SndEs (M : ME) (xr : XRel) (T : List FD) (n b : Nat) (B : BB) (es : Es) : Prop := ∀ (X : Cx) (Wx : WX) (sc : Scope) (ps : List Expr), XOk X Wx M xr T n B sc → matEs M sc es ps = true → PA X ps (tA X.K xr B Wx (evEs b (callN T n) es))

theorem snd_var (i : Nat) : SndE M xr T n b B (.var i) := by
  intro X Wx sc p k h
  cases p <;> simp only [matE, Bool.false_eq_true] at h
  rename_i x pos
  simp only [Bool.and_eq_true] at h
  obtain ⟨⟨⟨h1, h2⟩, h3⟩, hxs⟩ := h
  have hxs := of_decide_eq_true hxs
  obtain ⟨h4, h5, _⟩ := plainN_of h3
  refine SE.of_plain ((pe_var (i := i) (by rw [k.hN]; exact of_decide_eq_true h1) (by rw [k.hs]; exact vis_of h2) h4 h5).weak fun σ H Q q => ?_) (fun _ => rfl) rfl
  obtain ⟨m, F, env, hq, S, q⟩ := q
  simp only [evE] at q
  split at q
  · rename_i w e
    obtain ⟨v, ev, rv⟩ := S.var i w (fun y hy z => hxs (by rw [k.xs, hy, z]; rfl)) e
    exact ⟨v, ev, PostE.now q S rv⟩
  · exact q.elim
theorem snd_lit (c : PyData) : SndE M xr T n b B (.lit c) := by
  intro X Wx sc p k h
  cases p <;> simp only [matE, Bool.false_eq_true] at h
  rename_i cc j pos
  have nw : ∀ {σ H Q} {v : V}, (∀ F, Dp X.K F v c) → tE X.K xr B Wx (evE b (callN T n) (.lit c)) σ H Q → Q v H := fun {σ H Q v} d q => by
    obtain ⟨m, F, env, hq, S, q⟩ := q
    exact PostE.now q S (d F)
  cases c <;> cases cc <;> simp only [matC, Bool.false_eq_true, decide_eq_true_eq] at h
  case none.none => exact SE.of_plain (pe_non.weak fun σ H Q q => nw (fun _ => .non) q) (fun _ => rfl) rfl
  case bool.bool => subst h; exact SE.of_plain (pe_bl.weak fun σ H Q q => nw (fun _ => .bl _) q) (fun _ => rfl) rfl
  case int.int => subst h; exact SE.of_plain (pe_int.weak fun σ H Q q => nw (fun _ => .int _) q) (fun _ => rfl) rfl
  case str.str => subst h; exact SE.of_plain (pe_str.weak fun σ H Q q => nw (fun _ => .str _) q) (fun _ => rfl) rfl

theorem snd_nil : SndEs M xr T n b B .nil := by
  intro X Wx sc ps k h
  cases ps with
  | cons _ _ => simp [matEs] at h
  | nil =>
    refine PA.weak pa_nil fun σ H Q q => ?_
    obtain ⟨m, F, env, hq, S, q⟩ := q
    exact q m F H (.refl ..) S [] .nil
theorem snd_cons {e : E} {es : Es} (he : SndE M xr T n b B e) (hes : SndEs M xr T n b B es) : SndEs M xr T n b B (.cons e es) := by
  intro X Wx sc ps k h
  cases ps with
  | nil => simp [matEs] at h
  | cons p ps =>
    simp only [matEs, Bool.and_eq_true] at h
    refine PA.weak (pa_cons (he X Wx sc p k h.1.2).pe (hes X Wx sc ps k h.2) (star1 h.1.1)) fun σ H Q q => ?_
    obtain ⟨m, F, env, hq, S, q⟩ := q
    refine ⟨m, F, env, hq, S, (PostG.bind q).mono fun w h1 m1 F1 H1 x1 S1 q x r1 => ⟨m1, F1, env, h1, S1, q.bind.mono fun ws h2 m2 F2 H2 x2 S2 q xs r2 => ?_⟩⟩
    exact q m2 F2 H2 (.refl ..) S2 _ (.cons (wr_mono x2.ml x2.sub r1) r2)
theorem ev_len : ∀ (C : CallF) (es : Es) {env : Vars} {h h' : Hq} {ws : List W}, evEs b C es env h = .ok ws h' → ws.length = es.len
  | _, .nil, _, _, _, _, e => by simp only [evEs, R.ok.injEq] at e; rw [← e.1]; rfl
  | C, .cons e es, env, h, h', ws, q => by
    simp only [evEs] at q
    cases h1 : evE b C e env h with
    | ok w h1' =>
      rw [h1] at q
      simp only [R.bind] at q
      cases h2 : evEs b C es env h1' with
      | ok ws2 h2' =>
        rw [h2] at q
        simp only [R.ok.injEq] at q
        rw [← q.1, List.length_cons, ev_len C es h2]
        rfl
      | ex _ _ _ => rw [h2] at q; simp at q
      | bad => rw [h2] at q; simp at q
    | ex _ _ _ => rw [h1] at q; simp [R.bind] at q
    | bad => rw [h1] at q; simp [R.bind] at q
/-- a display: its items, then the new thing -/
theorem disp {X : Cx} {Wx : WX} {es : Es} {g : List W → Hq → R W} {σ : L2.St} {H : Hp} {Q : VK} {G : List V → Hp → Prop} (q : tE X.K xr B Wx (fun env h => (evEs b (callN T n) es env h).bind g) σ H Q) (hl : es.len ≤ 10000)
    (fin : ∀ m F env h H ws vs, SR X.K B m F env h σ H → WRs X.K m F vs ws → ws.length ≤ sizeLine → PostE X.K xr B Wx m F env σ H (g ws h) Q → G vs H) : tA X.K xr B Wx (evEs b (callN T n) es) σ H (fun vs H1 => vs.length ≤ sizeLine ∧ G vs H1) := by
  obtain ⟨m, F, env, hq, S, q⟩ := q
  refine ⟨m, F, env, hq, S, ?_⟩
  have q' := q.bind
  have small : ∀ k : Nat, k ≤ 10000 → k ≤ sizeLine := fun k hk => by rw [PySem.sizeLine_eq]; omega
  cases e : evEs b (callN T n) es env hq with
  | ok ws h1 =>
    have len := ev_len _ _ e
    rw [e] at q'
    intro m1 F1 H1 x1 S1 vs rv
    have hw : ws.length ≤ sizeLine := small _ (by omega)
    exact ⟨by rw [rv.length]; exact hw, fin m1 F1 env h1 H1 ws vs S1 rv hw (q' m1 F1 H1 x1 S1)⟩
  | ex c ds h1 => rw [e] at q'; exact q'
  | bad => rw [e] at q'; exact q'
theorem snd_tup {es : Es} (hes : SndEs M xr T n b B es) : SndE M xr T n b B (.tup es) := by
  intro X Wx sc p k h
  cases p <;> simp only [matE, Bool.false_eq_true, Bool.and_eq_true, decide_eq_true_eq] at h
  refine SE.of_plain ((pe_tup (hes X Wx sc _ k h.1)).weak fun σ H Q q => ?_) (fun _ => rfl) rfl
  refine disp (by simpa only [tE, evE] using q) h.2 fun m F env hq H ws vs S rv hl q p hp => ?_
  split at q
  · rename_i ds e
    exact PostE.newF q S hp (dp_newT S.hr hp (rv.toD e))
  · exact q.elim
theorem snd_lst {es : Es} (hes : SndEs M xr T n b B es) : SndE M xr T n b B (.lst es) := by
  intro X Wx sc p k h
  cases p <;> simp only [matE, Bool.false_eq_true, Bool.and_eq_true, decide_eq_true_eq] at h
  refine SE.of_plain ((pe_lst (hes X Wx sc _ k h.1)).weak fun σ H Q q => ?_) (fun _ => rfl) rfl
  refine disp (by simpa only [tE, evE] using q) h.2 fun m F env hq H ws vs S rv hl q p hp => ?_
  split at q
  · rename_i ds e
    exact PostE.newF q S hp (dp_newL S.hr hp (rv.toD e))
  · exact q.elim
theorem snd_lstM {es : Es} (hes : SndEs M xr T n b B es) : SndE M xr T n b B (.lstM es) := by
  intro X Wx sc p k h
  cases p <;> simp only [matE, Bool.false_eq_true, Bool.and_eq_true, decide_eq_true_eq] at h
  refine SE.of_plain ((pe_lst (hes X Wx sc _ k h.1)).weak fun σ H Q q => ?_) (fun _ => rfl) rfl
  refine disp (by simpa only [tE, evE] using q) h.2 fun m F env hq H ws vs S rv hl q p hp => ?_
  split at q
  · rename_i ds e
    exact PostE.newL (o := .lst ds) q S hp ⟨S.hr.freeF hp, vs, upd_same, rv.toD e⟩
  · exact q.elim
theorem snd_lsw {es : Es} (hes : SndEs M xr T n b B es) : SndE M xr T n b B (.lsw es) := by
  intro X Wx sc p k h
  cases p <;> simp only [matE, Bool.false_eq_true, Bool.and_eq_true, decide_eq_true_eq] at h
  refine SE.of_plain ((pe_lst (hes X Wx sc _ k h.1)).weak fun σ H Q q => ?_) (fun _ => rfl) rfl
  refine disp (by simpa only [tE, evE] using q) h.2 fun m F env hq H ws vs S rv hl q p hp => ?_
  exact PostE.newL (o := .lsw ws) q S hp ⟨S.hr.freeF hp, vs, upd_same, wrs_mono ⟨[p], rfl⟩ (.refl _) rv⟩
theorem snd_bin {o : Operator} {x y : E} (hx : SndE M xr T n b B x) (hy : SndE M xr T n b B y) : SndE M xr T n b B (.bin o x y) := by
  intro X Wx sc p k h
  cases p <;> simp only [matE, Bool.false_eq_true, Bool.and_eq_true, decide_eq_true_eq] at h
  obtain ⟨⟨rfl, h1⟩, h2⟩ := h
  refine SE.of_plain ((pe_op (op_bin o) (hx X Wx sc _ k h1).pe (hy X Wx sc _ k h2).pe).weak fun σ H Q q => tOp_read σ H Q (by simpa only [tE, evE] using q)) (fun _ => rfl) rfl
theorem opM_cases {K : PySem.W.Frag} {Wx : WX} {f : PyData → PyData → Option PyData} {v w : W} {h : Hq} {m : List Addr} {F H : Hp} {env : Vars} {σ : L2.St} {Q : VK} (p : PostE K xr B Wx m F env σ H (opM f v w h) Q) :
    ∃ d e xs, toD h v = some d ∧ toD h w = some e ∧ f d e = some (.list xs) ∧ PostE K xr B Wx m F env σ H (.ok (.l h.length) (h ++ [.lst xs])) Q := by
  unfold opM at p
  split at p
  · rename_i d e h1 h2
    split at p
    · rename_i xs h3
      exact ⟨d, e, xs, h1, h2, h3, p⟩
    · exact p.elim
  · exact p.elim
theorem op_binM {X : Cx} {Wx : WX} (o : Operator) : OpR X (binaryOp o) (rOp X.K xr B Wx (opM (evBin o))) := by
  intro pins s σ H x y v u Q I rx ry hq
  obtain ⟨m, F, env, h, σ', w1, w2, S, r1, r2, p⟩ := hq
  obtain ⟨d, e, r, t1, t2, ev, p⟩ := opM_cases p
  have n1 := now_of S.hr r1 t1
  have n2 := now_of S.hr r2 t2
  have szE := sz_eq
  cases o <;> cases d <;> cases e <;> simp only [evBin, reduceCtorEq] at ev <;> first | (cases ev; done) | (split at ev <;> cases ev; done) | skip
  case Add.list.list i j =>
    split at ev
    · cases ev
      obtain ⟨a, vs, rfl, s1, d1⟩ := n1.list S.hr.sub
      obtain ⟨b, us, rfl, s2, d2⟩ := n2.list S.hr.sub
      have l1 := d1.length
      have l2 := d2.length
      exact op_catL pins s σ H _ _ v u Q I rx ry ⟨a, b, vs, us, rfl, rfl, s1, s2, by omega, fun q hq => PostE.newL (o := .lst (i ++ j)) p S hq ⟨S.hr.freeF hq, vs ++ us, upd_same, d1.app d2⟩⟩
    · cases ev
  case Mult.list.int i j =>
    split at ev
    · rename_i hc
      cases n2.int; cases ev
      obtain ⟨a, vs, rfl, s1, d1⟩ := n1.list S.hr.sub
      have hc := repOk_ok hc
      have l1 := d1.length
      exact op_repL pins s σ H _ _ v u Q I rx ry ⟨a, j, vs, rfl, rfl, s1, by omega, by omega, by rw [l1]; omega, fun q hq => PostE.newL (o := .lst (repL i j)) p S hq ⟨S.hr.freeF hq, _, upd_same, d1.rep _⟩⟩
    · cases ev
theorem snd_binM {o : Operator} {x y : E} (hx : SndE M xr T n b B x) (hy : SndE M xr T n b B y) : SndE M xr T n b B (.binM o x y) := by
  intro X Wx sc p k h
  cases p <;> simp only [matE, Bool.false_eq_true, Bool.and_eq_true, decide_eq_true_eq] at h
  obtain ⟨⟨rfl, h1⟩, h2⟩ := h
  refine SE.of_plain ((pe_op (op_binM o) (hx X Wx sc _ k h1).pe (hy X Wx sc _ k h2).pe).weak fun σ H Q q => tOp_read σ H Q (by simpa only [tE, evE] using q)) (fun _ => rfl) rfl
theorem snd_cmp {o : CmpOp} {x y : E} (hx : SndE M xr T n b B x) (hy : SndE M xr T n b B y) : SndE M xr T n b B (.cmp o x y) := by
  intro X Wx sc p k h
  cases p <;> try (simp only [matE, Bool.false_eq_true] at h; done)
  rename_i l ops cs pos
  match ops, cs, h with
  | [o'], [pb], h =>
    simp only [matE, Bool.and_eq_true, decide_eq_true_eq] at h
    obtain ⟨⟨⟨rfl, h0⟩, h1⟩, h2⟩ := h
    have hm : behindInMarks o pb = false := by cases pb <;> first | rfl | (simp [notSet] at h0)
    have a := (hx X Wx sc _ k h1).pe
    have c := (hy X Wx sc _ k h2).pe
    refine ⟨(pe_cmpR (op_cmp k.hw k.hu o) a c hm).weak fun σ H Q q => tOp_read σ H Q (by simpa only [tE, evE] using q), fun _ => (pt_cmpR (op_cmp (xr := xr) (B := B) (Wx := Wx) k.hw k.hu o) a c hm).weak fun σ H Q q => ?_, fun z => by cases z⟩
    exact tTest_weak (t' := tE X.K xr B Wx (evE b (callN T n) (.cmp o x y))) (fun σ H Q q => tOp_read σ H Q (by simpa only [tE, evE] using q)) σ H Q (tB_of σ H Q q)
  | [], _, h => simp [matE] at h
  | [_], [], h => simp [matE] at h
  | [_], _ :: _ :: _, h => simp [matE] at h
  | _ :: _ :: _, _, h => simp [matE] at h
end
end Ev

/-! EvI: the rest of the expressions; all of them (sndE). -/
namespace Ev
open PySem PySem.Spec L2
variable [Wd]
section
variable {M : ME} {xr : XRel} {T : List FD} {n b : Nat} {B : BB}

theorem bind1 {K : PySem.W.Frag} {Wx : WX} {ra : Vars → Hq → R W} {g : Vars → W → Hq → R W} {σ : L2.St} {H : Hp} {Q : VK} {Q' : VK} (p : tE K xr B Wx (fun env h => (ra env h).bind (g env)) σ H Q)
    (i : ∀ m F env h H w v, SR K B m F env h σ H → WR K m F v w → PostE K xr B Wx m F env σ H (g env w h) Q → Q' v H) : tE K xr B Wx ra σ H Q' := by
  obtain ⟨m, F, env, h, S, p⟩ := p
  exact ⟨m, F, env, h, S, p.bind.mono fun w h1 m1 F1 H1 x1 S1 p v rv => i m1 F1 env h1 H1 w v S1 rv p⟩

theorem snd_neg {x : E} (hx : SndE M xr T n b B x) : SndE M xr T n b B (.neg x) := by
  intro X Wx sc p k h
  cases p <;> try (simp only [matE, Bool.false_eq_true] at h; done)
  rename_i o pa pos
  cases o <;> simp only [matE, Bool.false_eq_true] at h
  refine SE.of_plain ((pe_un un_neg (hx X Wx sc _ k h).pe).weak fun σ H Q q => ?_) (fun _ => rfl) rfl
  simp only [tE, evE] at q
  refine bind1 (ra := evE b (callN T n) x) q fun m F env hq H w v S r q => ?_
  split at q
  · rename_i i
    have r : Dp X.K F v (.int i) := r
    cases r
    exact ⟨i, rfl, PostE.now q S (.int _)⟩
  · exact q.elim
theorem tT_of {X : Cx} {Wx : WX} {r : Vars → Hq → R W} {t : TE} {σ : L2.St} {H : Hp} {Q : Bool → Hp → Prop} (i : ∀ σ H Q, tE X.K xr B Wx r σ H Q → t σ H Q) (q : tT X.K xr B Wx r σ H Q) : tB t σ H Q := i σ H _ (tB_of σ H Q q)
theorem snd_nt {x : E} (hx : SndE M xr T n b B x) : SndE M xr T n b B (.nt x) := by
  intro X Wx sc p k h
  cases p <;> try (simp only [matE, Bool.false_eq_true] at h; done)
  rename_i o pa pos
  cases o <;> simp only [matE, Bool.false_eq_true, Bool.and_eq_true] at h
  have a := hx X Wx sc _ k h.1
  refine ⟨(pe_not a.pe).weak fun σ H Q q => ?_, fun _ => (pt_not (a.pt h.2)).weak fun σ H Q q => ?_, fun z => by cases z⟩
  · simp only [tE, evE] at q
    refine bind1 (ra := evE b (callN T n) x) q fun m F env hq H w v S r q => ?_
    split at q
    · rename_i i
      have r : Dp X.K F v (.bool i) := r
      cases r
      exact ⟨i, rfl, PostE.now q S (.bl _)⟩
    · exact q.elim
  · obtain ⟨m, F, env, hq, S, q⟩ := q
    refine ⟨m, F, env, hq, S, (PostG.bind q).mono fun w h1 m1 F1 H1 x1 S1 q => ?_⟩
    split at q
    · rename_i i
      obtain ⟨k, e, q⟩ := q m1 F1 H1 (.refl ..) S1
      cases e
      exact ⟨i, rfl, q⟩
    · exact q.elim
theorem isn_read {X : Cx} {Wx : WX} {x : E} {σ : L2.St} {H : Hp} {Q : VK} (q : tE X.K xr B Wx (evE b (callN T n) (.isN x)) σ H Q) : tIsN (tE X.K xr B Wx (evE b (callN T n) x)) σ H Q := by
  simp only [tE, evE] at q
  refine bind1 (ra := evE b (callN T n) x) q fun m F env hq H w v S r q => ?_
  have fin : ∀ k, decide (v = .non) = k → PostE X.K xr B Wx m F env σ H (.ok (.d (.bool k)) hq) Q → Q (.bl (decide (v = .non))) H := fun k e q => by
    rw [e]; exact PostE.now q S (.bl k)
  cases w with
  | x _ _ => exact r.elim
  | l j =>
    obtain ⟨a, _, rfl⟩ := r
    exact fin false (by simp) q
  | d y =>
    have r : Dp X.K F v y := r
    cases r with
    | non => exact fin true (by decide) q
    | bl _ => exact fin false (by simp) q
    | int _ => exact fin false (by simp) q
    | str _ => exact fin false (by simp) q
    | lst _ _ => exact fin false (by simp) q
    | tup _ _ => exact fin false (by simp) q
theorem notn_read {X : Cx} {Wx : WX} {x : E} {σ : L2.St} {H : Hp} {Q : VK} (q : tE X.K xr B Wx (evE b (callN T n) (.notN x)) σ H Q) : tNotN (tE X.K xr B Wx (evE b (callN T n) x)) σ H Q := by
  simp only [tE, evE] at q
  refine bind1 (ra := evE b (callN T n) x) q fun m F env hq H w v S r q => ?_
  have fin : ∀ k, decide (v = .non) = !k → PostE X.K xr B Wx m F env σ H (.ok (.d (.bool k)) hq) Q → Q (.bl (!decide (v = .non))) H := fun k e q => by
    rw [e, Bool.not_not]; exact PostE.now q S (.bl k)
  cases w with
  | x _ _ => exact r.elim
  | l j =>
    obtain ⟨a, _, rfl⟩ := r
    exact fin true (by simp) q
  | d y =>
    have r : Dp X.K F v y := r
    cases r with
    | non => exact fin false (by simp) q
    | bl _ => exact fin true (by simp) q
    | int _ => exact fin true (by simp) q
    | str _ => exact fin true (by simp) q
    | lst _ _ => exact fin true (by simp) q
    | tup _ _ => exact fin true (by simp) q
theorem snd_isN {x : E} (hx : SndE M xr T n b B x) : SndE M xr T n b B (.isN x) := by
  intro X Wx sc p k h
  cases p <;> try (simp only [matE, Bool.false_eq_true] at h; done)
  rename_i l ops cs pos
  rcases ops with _ | ⟨o, _ | ⟨o2, os⟩⟩ <;> rcases cs with _ | ⟨c, _ | ⟨c2, cs⟩⟩ <;> try (simp [matE] at h; done)
  cases o <;> try (simp [matE] at h; done)
  cases c <;> try (simp [matE] at h; done)
  rename_i c _ _
  cases c <;> try (simp [matE] at h; done)
  simp only [matE] at h
  have a := (hx X Wx sc _ k h).pe
  exact ⟨(pe_cmp (pc_isN a) rfl).weak fun σ H Q q => isn_read q, fun _ => (pt_cmp (pc_isN a) rfl).weak fun σ H Q q => tT_of (fun σ H Q q => isn_read q) q, fun z => by cases z⟩
theorem snd_notN {x : E} (hx : SndE M xr T n b B x) : SndE M xr T n b B (.notN x) := by
  intro X Wx sc p k h
  cases p <;> try (simp only [matE, Bool.false_eq_true] at h; done)
  rename_i l ops cs pos
  rcases ops with _ | ⟨o, _ | ⟨o2, os⟩⟩ <;> rcases cs with _ | ⟨c, _ | ⟨c2, cs⟩⟩ <;> try (simp [matE] at h; done)
  cases o <;> try (simp [matE] at h; done)
  cases c <;> try (simp [matE] at h; done)
  rename_i c _ _
  cases c <;> try (simp [matE] at h; done)
  simp only [matE] at h
  have a := (hx X Wx sc _ k h).pe
  exact ⟨(pe_cmp (pc_notN a) rfl).weak fun σ H Q q => notn_read q, fun _ => (pt_cmp (pc_notN a) rfl).weak fun σ H Q q => tT_of (fun σ H Q q => notn_read q) q, fun z => by cases z⟩

theorem op_isB {X : Cx} (n : Bool) : OpR X (compareOp (if n then .IsNot else .Is)) (fun x y H Q => ∃ c d, x = .bl c ∧ y = .bl d ∧ Q (.bl (xor n (c == d))) H) := by
  intro pins s σ H x y v u Q I rx ry hq
  obtain ⟨c, d, rfl, rfl, q⟩ := hq
  cases rx
  cases ry
  cases n
  · exact PyProof.Rows.is_bool ⟨.bl _, H, I, rfl, by simpa using q⟩
  · exact PyProof.Rows.isnot_bool ⟨.bl _, H, I, rfl, by simpa [bne] using q⟩
theorem isB_read {X : Cx} {Wx : WX} {nn kk : Bool} {x : E} {σ : L2.St} {H : Hp} {Q : VK} (q : tE X.K xr B Wx (evE b (callN T n) (.isB nn kk x)) σ H Q) : tOp (fun x y H Q => ∃ c d, x = .bl c ∧ y = .bl d ∧ Q (.bl (xor nn (c == d))) H) (tE X.K xr B Wx (evE b (callN T n) x)) (tC (.bl kk)) σ H Q := by
  simp only [tE, evE] at q
  refine bind1 (ra := evE b (callN T n) x) q fun m F env hq H w v S r q => ?_
  split at q
  · rename_i j
    have r : Dp X.K F v (.bool j) := r
    cases r
    exact ⟨j, kk, rfl, rfl, PostE.now q S (.bl _)⟩
  · exact q.elim
theorem snd_isB {nn kk : Bool} {x : E} (hx : SndE M xr T n b B x) : SndE M xr T n b B (.isB nn kk x) := by
  intro X Wx sc p k h
  cases p <;> try (simp only [matE, Bool.false_eq_true] at h; done)
  rename_i l ops cs pos
  rcases ops with _ | ⟨o, _ | ⟨o2, os⟩⟩ <;> rcases cs with _ | ⟨c, _ | ⟨c2, cs⟩⟩ <;> try (simp [matE] at h; done)
  cases c <;> try (simp [matE] at h; done)
  rename_i c _ _
  cases c <;> try (simp [matE] at h; done)
  simp only [matE, Bool.and_eq_true, decide_eq_true_eq] at h
  obtain ⟨⟨rfl, rfl⟩, h1⟩ := h
  have a := (hx X Wx sc _ k h1).pe
  have hm : ∀ {j p}, behindInMarks (if nn then CmpOp.IsNot else .Is) (.Constant (.bool kk) j p) = false := by
    intro j p
    cases nn <;> rfl
  exact ⟨(pe_cmpR (op_isB nn) a pe_bl hm).weak fun σ H Q q => isB_read q, fun _ => (pt_cmpR (op_isB nn) a pe_bl hm).weak fun σ H Q q => tT_of (fun σ H Q q => isB_read q) q, fun z => by cases z⟩
theorem chain_read {X : Cx} {Wx : WX} {o o' : CmpOp} {x y z : E} {σ : L2.St} {H : Hp} {Q : VK} (q : tE X.K xr B Wx (evE b (callN T n) (.cmp2 o o' x y z)) σ H Q) :
    tChain (rOp X.K xr B Wx (cmpW o)) (rOp X.K xr B Wx (cmpW o')) (tE X.K xr B Wx (evE b (callN T n) x)) (tE X.K xr B Wx (evE b (callN T n) y)) (tE X.K xr B Wx (evE b (callN T n) z)) σ H Q := by
  obtain ⟨m, F, env, h, S, p⟩ := q
  simp only [evE] at p
  refine ⟨m, F, env, h, S, p.bind.mono fun w1 h1 m1 F1 H1 x1 S1 p x r1 => ⟨m1, F1, env, h1, S1, p.bind.mono fun w2 h2 m2 F2 H2 x2 S2 p y r2 => ?_⟩⟩
  refine ⟨m2, F2, env, h2, σ, w1, w2, S2, wr_mono x2.ml x2.sub r1, r2, p.bind.mono fun w3 h3 m3 F3 H3 x3 S3 p v r3 => ?_⟩
  split at p
  · have r3 : Dp X.K F3 v (.bool true) := r3
    cases r3
    refine ⟨true, rfl, iteT ⟨m3, F3, env, h3, S3, p.bind.mono fun w4 h4 m4 F4 H4 x4 S4 p u r4 => ?_⟩⟩
    exact ⟨m4, F4, env, h4, σ, w2, w4, S4, wr_mono (x3.trans x4).ml (x3.trans x4).sub r2, r4, p⟩
  · have r3 : Dp X.K F3 v (.bool false) := r3
    cases r3
    exact ⟨false, rfl, iteF (PostE.now p S3 (.bl _))⟩
  · exact p.elim
theorem snd_cmp2 {o o' : CmpOp} {x y z : E} (hx : SndE M xr T n b B x) (hy : SndE M xr T n b B y) (hz : SndE M xr T n b B z) : SndE M xr T n b B (.cmp2 o o' x y z) := by
  intro X Wx sc p k h
  cases p <;> try (simp only [matE, Bool.false_eq_true] at h; done)
  rename_i l ops cs pos
  rcases ops with _ | ⟨o1, _ | ⟨o2, _ | ⟨o3, os⟩⟩⟩ <;> rcases cs with _ | ⟨c, _ | ⟨c2, _ | ⟨c3, cs⟩⟩⟩ <;> try (simp [matE] at h; done)
  simp only [matE, Bool.and_eq_true, decide_eq_true_eq] at h
  obtain ⟨⟨⟨⟨⟨⟨rfl, rfl⟩, g1⟩, g2⟩, h1⟩, h2⟩, h3⟩ := h
  have hm : ∀ {o : CmpOp} {c : Expr}, notSet c = true → behindInMarks o c = false := fun {o c} g => by cases c <;> first | rfl | (simp [notSet] at g)
  have a1 := (hx X Wx sc _ k h1).pe
  have a2 := (hy X Wx sc _ k h2).pe
  have a3 := (hz X Wx sc _ k h3).pe
  have mk : ∀ {o : CmpOp} {c : Expr}, notSet c = true → markedBehindIn o c = fun t => t := fun {o c} g => by
    funext t
    unfold markedBehindIn
    rw [hm g]
  refine ⟨(pe_chain (op_cmp (xr := xr) (B := B) (Wx := Wx) k.hw k.hu o) (op_cmp (xr := xr) (B := B) (Wx := Wx) k.hw k.hu o') a1 a2 a3 ?_).weak fun σ H Q q => chain_read q, fun _ => (pt_chain (op_cmp (xr := xr) (B := B) (Wx := Wx) k.hw k.hu o) (op_cmp (xr := xr) (B := B) (Wx := Wx) k.hw k.hu o') a1 a2 a3 ?_).weak fun σ H Q q => ?_, fun z => by cases z⟩
  all_goals first | exact hm g2 | exact tT_of (fun σ H Q q => chain_read q) (by assumption)
theorem snd_one {x : E} (hx : SndE M xr T n b B x) : SndE M xr T n b B (.one x) := by
  intro X Wx sc p k h
  cases p <;> try (simp only [matE, Bool.false_eq_true] at h; done)
  rename_i o ps pos
  rcases ps with _ | ⟨p, _ | ⟨p2, ps⟩⟩ <;> try (simp [matE] at h; done)
  simp only [matE, Bool.and_eq_true] at h
  have a := hx X Wx sc _ k h.1
  have e : ∀ {σ H Q}, tE X.K xr B Wx (evE b (callN T n) (.one x)) σ H Q → tE X.K xr B Wx (evE b (callN T n) x) σ H Q := fun {σ H Q} q => by simpa only [tE, evE] using q
  have e' : ∀ {σ H Q}, tT X.K xr B Wx (evE b (callN T n) (.one x)) σ H Q → tT X.K xr B Wx (evE b (callN T n) x) σ H Q := fun {σ H Q} q => by simpa only [tT, evE] using q
  have w : PW X (.BoolOp o [p] pos) (tT X.K xr B Wx (evE b (callN T n) (.one x))) := by
    cases o
    · exact (pw_and1 (a.pt h.2)).weak fun σ H Q q => e' q
    · exact (pw_or1 (a.pt h.2)).weak fun σ H Q q => e' q
  exact ⟨(pe_one a.pe).weak fun σ H Q q => e q, fun _ => w.pt, fun _ => w⟩
theorem snd_and {x y : E} (hx : SndE M xr T n b B x) (hy : SndE M xr T n b B y) : SndE M xr T n b B (.and x y) := by
  intro X Wx sc p k h
  cases p <;> try (simp only [matE, Bool.false_eq_true] at h; done)
  rename_i o ps pos
  cases o <;> rcases ps with _ | ⟨p, _ | ⟨p2, ps⟩⟩ <;> try (simp [matE] at h; done)
  simp only [matE, Bool.and_eq_true] at h
  have a := hx X Wx sc _ k h.1.1
  have c := hy X Wx sc _ k h.2
  have w : PW X (.BoolOp .And (p :: p2 :: ps) pos) (tT X.K xr B Wx (evE b (callN T n) (.and x y))) := by
    refine (pw_and (a.pt h.1.2) (c.pw rfl)).weak fun σ H Q q => ?_
    obtain ⟨m, F, env, hq, S, q⟩ := q
    simp only [evE] at q
    refine ⟨m, F, env, hq, S, q.bind.mono fun w h1 m1 F1 H1 x1 S1 q => ?_⟩
    split at q
    · exact ⟨true, rfl, iteT ⟨m1, F1, env, h1, S1, q⟩⟩
    · obtain ⟨k, e, q⟩ := q m1 F1 H1 (.refl ..) S1
      cases e
      exact ⟨false, rfl, iteF q⟩
    · exact q.elim
  refine ⟨(pe_and a.pe c.pe).weak fun σ H Q q => ?_, fun _ => w.pt, fun _ => w⟩
  simp only [tE, evE] at q
  refine bind1 (ra := evE b (callN T n) x) q fun m F env hq H w v S r q => ?_
  split at q
  · have r : Dp X.K F v (.bool true) := r
    cases r
    exact ⟨true, rfl, iteT ⟨m, F, env, hq, S, q⟩⟩
  · have r : Dp X.K F v (.bool false) := r
    cases r
    exact ⟨false, rfl, iteF (PostE.now q S (.bl _))⟩
  · exact q.elim
theorem snd_or {x y : E} (hx : SndE M xr T n b B x) (hy : SndE M xr T n b B y) : SndE M xr T n b B (.or x y) := by
  intro X Wx sc p k h
  cases p <;> try (simp only [matE, Bool.false_eq_true] at h; done)
  rename_i o ps pos
  cases o <;> rcases ps with _ | ⟨p, _ | ⟨p2, ps⟩⟩ <;> try (simp [matE] at h; done)
  simp only [matE, Bool.and_eq_true] at h
  have a := hx X Wx sc _ k h.1.1
  have c := hy X Wx sc _ k h.2
  have w : PW X (.BoolOp .Or (p :: p2 :: ps) pos) (tT X.K xr B Wx (evE b (callN T n) (.or x y))) := by
    refine (pw_or (a.pt h.1.2) (c.pw rfl)).weak fun σ H Q q => ?_
    obtain ⟨m, F, env, hq, S, q⟩ := q
    simp only [evE] at q
    refine ⟨m, F, env, hq, S, q.bind.mono fun w h1 m1 F1 H1 x1 S1 q => ?_⟩
    split at q
    · obtain ⟨k, e, q⟩ := q m1 F1 H1 (.refl ..) S1
      cases e
      exact ⟨true, rfl, iteT q⟩
    · exact ⟨false, rfl, iteF ⟨m1, F1, env, h1, S1, q⟩⟩
    · exact q.elim
  refine ⟨(pe_or a.pe c.pe).weak fun σ H Q q => ?_, fun _ => w.pt, fun _ => w⟩
  simp only [tE, evE] at q
  refine bind1 (ra := evE b (callN T n) x) q fun m F env hq H w v S r q => ?_
  split at q
  · have r : Dp X.K F v (.bool true) := r
    cases r
    exact ⟨true, rfl, iteT (PostE.now q S (.bl _))⟩
  · have r : Dp X.K F v (.bool false) := r
    cases r
    exact ⟨false, rfl, iteF ⟨m, F, env, hq, S, q⟩⟩
  · exact q.elim
/-- a test, then one of two -/
theorem bindT1 {K : PySem.W.Frag} {Wx : WX} {ra : Vars → Hq → R W} {r1 r2 : Vars → Hq → R W} {σ : L2.St} {H : Hp} {Q : VK} (p : tE K xr B Wx (fun env h => (ra env h).bind fun v h => match v with
      | .d (.bool true) => r1 env h
      | .d (.bool false) => r2 env h
      | _ => .bad) σ H Q) : tIf (tT K xr B Wx ra) (tE K xr B Wx r1) (tE K xr B Wx r2) σ H Q := by
  obtain ⟨m, F, env, h, S, p⟩ := p
  refine ⟨m, F, env, h, S, p.bind.mono fun w h1 m1 F1 H1 x1 S1 p => ?_⟩
  split at p
  · exact ⟨true, rfl, iteT ⟨m1, F1, env, h1, S1, p⟩⟩
  · exact ⟨false, rfl, iteF ⟨m1, F1, env, h1, S1, p⟩⟩
  · exact p.elim
theorem snd_ife {c x y : E} (hc : SndE M xr T n b B c) (hx : SndE M xr T n b B x) (hy : SndE M xr T n b B y) : SndE M xr T n b B (.ife c x y) := by
  intro X Wx sc p k h
  cases p <;> simp only [matE, Bool.false_eq_true, Bool.and_eq_true] at h
  refine ⟨(pe_ifExp ((hc X Wx sc _ k h.1.1.1).pt h.1.1.2) (hx X Wx sc _ k h.1.2).pe (hy X Wx sc _ k h.2).pe).weak fun σ H Q q => ?_, (fun z => by cases z), (fun z => by cases z)⟩
  simp only [tE, evE] at q
  exact bindT1 q
theorem snd_idx {x i : E} (hx : SndE M xr T n b B x) (hi : SndE M xr T n b B i) : SndE M xr T n b B (.idx x i) := by
  intro X Wx sc p k h
  cases p <;> try (simp only [matE, Bool.false_eq_true] at h; done)
  rename_i pa pi pos
  simp only [matE, Bool.and_eq_true] at h
  have hp : PlainIx pi := by
    intro o i
    cases pi <;> first | rfl | (simp [notSlice] at h)
  exact SE.of_plain ((pe_ix (ix_E k.hw k.hu) (hx X Wx sc _ k h.1.2).pe (hi X Wx sc _ k h.2).pe hp).weak fun σ H Q q => tOp_read (f := fun a i h => evIdx h a i) σ H Q (by simpa only [tE, evE] using q)) (fun _ => rfl) rfl
/-- a part of a slice -/
def tOe (K : PySem.W.Frag) (xr : XRel) (B : BB) (Wx : WX) (f : Vars → Hq → R (Option W)) : TO := fun σ H Q => ∃ m F env h, SR K B m F env h σ H ∧ PostG K xr B Wx m F env σ H (f env h) (fun w _ m' F' H' => ∃ i, intO w = some i ∧ Q i H')
theorem po_of {X : Cx} {Wx : WX} {sc : Scope} {o : Oe} {p : Option Expr} (k : XOk X Wx M xr T n B sc) (ho : ∀ e, o = .some e → SndE M xr T n b B e) (h : matOe M sc o p = true) : PO X p (tOe X.K xr B Wx (evOe b (callN T n) o)) := by
  cases o with
  | none =>
    cases p with
    | some _ => simp [matOe] at h
    | none =>
      refine ⟨fun pins s σ H Q I q => po_none.run pins s σ H Q I ?_⟩
      obtain ⟨m, F, env, hq, S, q⟩ := q
      obtain ⟨i, e, q⟩ := q m F H (.refl ..) S
      cases e
      exact q
  | some e =>
    cases p with
    | none => simp [matOe] at h
    | some p =>
      simp only [matOe] at h
      refine ⟨fun pins s σ H Q I q => (po_some (ho e rfl X Wx sc p k h).pe).run pins s σ H Q I ?_⟩
      obtain ⟨m, F, env, hq, S, q⟩ := q
      simp only [evOe] at q
      refine ⟨m, F, env, hq, S, q.bind.mono fun w h1 m1 F1 H1 x1 S1 q v rv => ?_⟩
      obtain ⟨i, e, q⟩ := q m1 F1 H1 (.refl ..) S1
      unfold intO at e
      split at e
      · rename_i e2; cases e2
      · rename_i j e2
        cases e2
        cases e
        have rv : Dp X.K F1 v (.int j) := rv
        cases rv
        exact ⟨j, rfl, q⟩
      · cases e
theorem snd_slc {x : E} {lo hi : Oe} (hx : SndE M xr T n b B x) (h1 : ∀ e, lo = .some e → SndE M xr T n b B e) (h2 : ∀ e, hi = .some e → SndE M xr T n b B e) : SndE M xr T n b B (.slc x lo hi) := by
  intro X Wx sc p k h
  cases p <;> try (simp only [matE, Bool.false_eq_true] at h; done)
  rename_i pa ps pos
  cases ps <;> try (simp [matE] at h; done)
  rename_i pl ph pst pos2
  cases pst <;> try (simp [matE] at h; done)
  simp only [matE, Bool.and_eq_true] at h
  refine SE.of_plain ((pe_slice (sl_E (xr := xr) (B := B) (Wx := Wx)) (hx X Wx sc _ k h.1.1).pe (po_of k h1 h.1.2) (po_of k h2 h.2)).weak fun σ H Q q => ?_) (fun _ => rfl) rfl
  obtain ⟨m, F, env, hq, S, q⟩ := q
  simp only [evE] at q
  refine ⟨m, F, env, hq, S, q.bind.mono fun w h1 m1 F1 H1 x1 S1 q v rv => ⟨m1, F1, env, h1, S1, q.bind.mono fun l h2 m2 F2 H2 x2 S2 q => ?_⟩⟩
  split at q
  · rename_i i ei
    refine ⟨i, ei, m2, F2, env, h2, S2, q.bind.mono fun u h3 m3 F3 H3 x3 S3 q => ?_⟩
    split at q
    · rename_i j ej
      exact ⟨j, ej, m3, F3, env, h3, σ, w, S3, wr_mono (x2.trans x3).ml (x2.trans x3).sub rv, q⟩
    · exact q.elim
  · exact q.elim
end
end Ev

/-! EvRv: xs[::-1] of lists and tuples. -/
namespace Ev
open PySem PySem.Spec PyProof.Rows HT
section
variable {prog : Program} {w : World} {A : Around} {E : Value → Shared → Prop} {s : Shared}
theorem places_rev (n : Nat) : Builtin.Slice.slicePlaces ((n : Int) - 1) (-1) (-1) = n := by
  unfold Builtin.Slice.slicePlaces
  rw [if_neg (by decide)]
  by_cases h : n = 0
  · subst h; rfl
  · rw [if_pos (by omega), show -(-1 : Int) = 1 from rfl, Int.ediv_one]
    omega
theorem sliceApplied_rev {sl : Addr} {vl vu vs : Value} {n : Nat} {Q : Int × Int × Nat → Shared → Prop} (hs : s.heap.IsSliceOf sl vl vu vs) (pl : IsPart vl none) (pu : IsPart vu none) (ps : IsPart vs (some (-1)))
    (h : Q ((n : Int) - 1, -1, n) s) : wpAny (model prog w) A (Builtin.Slice.sliceApplied (.ref sl) (pure (n : Int))) Q E s := by
  obtain ⟨os, hos, hcs, hds⟩ := id hs
  unfold Builtin.Slice.sliceApplied Builtin.Slice.sliceFields
  refine wpAny_bind (wpAny_bind (wpAny_field hos hds (x := vl) rfl (wpAny_bind (wpAny_field hos hds (x := vu) rfl (wpAny_bind (wpAny_field hos hds (x := vs) rfl (wpAny_pure ?_)))))))
  refine wpAny_bind (slicePart_ ps ?_)
  show wpAny _ _ (if ((-1 : Int) == 0) = true then _ else _) _ _ s
  rw [if_neg (by decide)]
  refine wpAny_bind (slicePart_ pl (wpAny_bind (slicePart_ pu (wpAny_bind (wpAny_pure ?_)))))
  show wpAny _ _ (pure ((n : Int) - 1, (-1 : Int), Builtin.Slice.slicePlaces ((n : Int) - 1) (-1) (-1))) _ _ s
  rw [places_rev]
  exact wpAny_pure h
theorem pick_rev (xs : Array Value) : ((List.range xs.size).filterMap fun (m : Nat) => xs[(((xs.size : Int) - 1) + (m : Int) * (-1)).toNat]?).toArray = xs.toList.reverse.toArray := by
  refine congrArg List.toArray ?_
  have e : (List.range xs.size).filterMap (fun (m : Nat) => xs[(((xs.size : Int) - 1) + (m : Int) * (-1)).toNat]?) = (List.range xs.size).filterMap (fun m => xs.toList.reverse[m]?) := by
    have fc : ∀ (l : List Nat) (f g : Nat → Option Value), (∀ m ∈ l, f m = g m) → l.filterMap f = l.filterMap g := fun l f g => by
      induction l with
      | nil => intro _; rfl
      | cons x l ih =>
        intro h
        rw [List.filterMap_cons, List.filterMap_cons, h x List.mem_cons_self, ih fun m hm => h m (List.mem_cons_of_mem _ hm)]
    refine fc _ _ _ fun m hm => ?_
    have hm := List.mem_range.mp hm
    have e1 : (((xs.size : Int) - 1) + (m : Int) * (-1)).toNat = xs.size - 1 - m := by omega
    rw [e1, List.getElem?_reverse (by simpa using hm), Array.length_toList, Array.getElem?_toList]
  rw [e]
  have g : ∀ l : List Value, (List.range l.length).filterMap (fun m => l[m]?) = l := fun l => by
    induction l with
    | nil => rfl
    | cons x l ih =>
      rw [List.length_cons, List.range_succ_eq_map, List.filterMap_cons]
      simp only [List.getElem?_cons_zero, List.filterMap_map]
      refine congrArg (x :: ·) ?_
      have : (fun m => (x :: l)[m]?) ∘ Nat.succ = fun m => l[m]? := by funext m; simp
      rw [this, ih]
  have := g xs.toList.reverse
  rw [List.length_reverse, Array.length_toList] at this
  exact this
theorem getItem_tuple_rev {t sl : Addr} {items : Array Value} {vl vu vs : Value} {Q : Value → Shared → Prop} (ht : IsTup s.heap t items) (hs : s.heap.IsSliceOf sl vl vu vs) (pl : IsPart vl none) (pu : IsPart vu none) (ps : IsPart vs (some (-1)))
    (h : Q (.ref s.heap.objs.size) { s with heap := s.heap.push { cls := .type "tuple", data := .seq items.toList.reverse.toArray } })
    (hsz : items.size ≤ sizeLine) : wpAny (model prog w) A (getItem (.ref t) (.ref sl)) Q E s := by
  have htake : sizeOk (.seq items.toList.reverse.toArray) := by
    show items.toList.reverse.toArray.size ≤ sizeLine
    rw [List.size_toArray, List.length_reverse, Array.length_toList]
    exact hsz
  obtain ⟨os, hos, hcs, hds⟩ := id hs
  have hTs : s.TypeIs (.ref sl) "slice" := ⟨os, hos, hcs⟩
  unfold getItem
  try with_reducible refine wpAny_holding ?_
  first | refine wpAny_bind (wpAny_pure ?_) | skip
  refine wpAny_bind (wpAny_sequenceKey ht.typeIs (by decide) ?_)
  refine wpAny_bind (wpAny_callSpecial?_slot (name := Str.ofString "__getitem__") ht.typeIs PyProof.Rows.slot_tuple_getitem
    (wpAny_call_entry PyProof.Rows.slot_tuple_getitem ht.typeIs entry_tuple_getitem ?_ (args_tuple_getitem _ _)))
  show wpAny _ _ (Builtin.Tuple.tupleItemsOf (.ref t) >>= _) _ _ s
  refine wpAny_bind (tupleItemsOf_ ht ?_)
  refine wpAny_bind (wpAny_typeOf hTs ?_)
  rw [if_pos (by decide)]
  refine wpAny_bind (sliceApplied_rev hs pl pu ps ?_)
  have hno : ¬ ((((items.size : Int) - 1) == 0 && (-1 : Int) == 1 && items.size == items.size) = true) := by
    intro q
    rw [Bool.and_eq_true, Bool.and_eq_true] at q
    exact absurd q.1.2 (by decide)
  show wpAny _ _ (if (((items.size : Int) - 1) == 0 && (-1 : Int) == 1 && items.size == items.size) = true then _ else _) _ _ s
  rw [if_neg hno, pick_rev]
  first
    | exact wpAny_bind (m := Builtin.Tuple.tupleExact _) (wpAny_newObj_type (wpAny_pure ⟨_, rfl, wpAny_pure h⟩) htake)
    | exact wpAny_bind (m := Builtin.Tuple.tupleExact _) (wpAny_newObj_type (wpAny_bind (wpAny_pure (wpAny_pure ⟨_, rfl, wpAny_pure h⟩))) htake)
    | exact wpAny_bind (wpAny_bind (m := Builtin.Tuple.tupleExact _) (wpAny_newObj_type (wpAny_pure (wpAny_pure ⟨_, rfl, wpAny_pure h⟩)) htake))
    | exact wpAny_bind (wpAny_bind (m := Builtin.Tuple.tupleExact _) (wpAny_newObj_type (wpAny_pure ⟨_, rfl, wpAny_pure h⟩) htake))
end
end Ev
namespace Ev
open PySem PySem.Spec PyProof.Rows L2
section
variable {X : Cx}
def tRevA (K : PySem.W.Frag) (te : TE) : TE := fun σ H Q => te σ H fun x H1 => ∃ a xs, x = .ref a ∧
  ((SqL K H1 a xs ∧ ∀ p, H1 p = none → Q (.ref p) (upd H1 p (.lst xs.reverse))) ∨ (SqT K H1 a xs ∧ ∀ p, H1 p = none → Q (.ref p) (upd H1 p (.tup xs.reverse))))
theorem pe_revA {e : Expr} {te : TE} {k : Nat} {p1 p2 p3 pos : Pos} (he : PE X e te) : PE X (.Subscript e (.Slice none none (some (.UnaryOp .USub (.Constant (.int 1) k p1) p2)) p3) pos) (tRevA X.K te) := by
  refine ⟨fun pins s σ H Q I h => ?_⟩
  refine Subscript_ (thn (he.run pins s σ H _ I h) fun v s1 ⟨x, H1, I1, r1, q1⟩ => ?_)
  obtain ⟨a, xs, ex, hx⟩ := q1
  subst ex
  cases r1
  have hst : PO X (some (.UnaryOp .USub (.Constant (.int 1) k p1) p2)) (tPart (tUn (rU fun i => .int (-i)) (tC (.int 1)))) := po_some (pe_un un_neg pe_int)
  refine wpAny_Slice (thn (po_none.run pins s1 σ H1 (fun o H2 => o = none ∧ H2 = H1) I1 ⟨rfl, rfl⟩) fun vl s2 ⟨l, H2, I2, pl, el, e2⟩ => ?_)
  subst el e2
  refine thn (po_none.run pins s2 σ H2 (fun o H3 => o = none ∧ H3 = H2) I2 ⟨rfl, rfl⟩) fun vu s3 ⟨u, H3, I3, pu, eu, e3⟩ => ?_
  subst eu e3
  refine thn (hst.run pins s3 σ H3 (fun o H4 => o = some (-1) ∧ H4 = H3) I3 ⟨1, rfl, -1, rfl, rfl, rfl⟩) fun vs s4 ⟨o, H4, I4, ps, eo, e4⟩ => ?_
  subst eo e4
  have I5 : Inv X pins σ H4 { s4 with heap := s4.heap.push { cls := .type "slice", data := .fields #[vl, vu, vs] } } := I4.kept (t' := s4.toks) fun b ob q => Heap.get?_push_of_some _ q
  show wpAny (model X.prog X.w) X.A (subscriptTail e (.Slice none none (some (.UnaryOp .USub (.Constant (.int 1) k p1) p2)) p3) (.ref a) (.ref s4.heap.objs.size)) (EP X pins σ Q) X.xe { s4 with heap := s4.heap.push { cls := .type "slice", data := .fields #[vl, vu, vs] } }
  rcases hx with ⟨hx, q⟩ | ⟨hx, q⟩
  · obtain ⟨its, r, ht, hz⟩ := I5.list hx
    have hlen := r.length
    refine tail_any (ops := [.ref a, .ref s4.heap.objs.size]) ht.isList.typeIs (PySem.slot_list_getitem.lookup) ?_ (by with_unfolding_all rfl)
    refine wpAny_getItem_list_slice ht.isList (Heap.IsSliceOf.new _ vl vu vs) pl pu ps (by decide) ?_ (by rw [List.size_toArray]; omega)
    rw [PySem.W.krv_pick]
    refine ⟨.ref _, _, I5.laid (t' := s4.toks) (o := .lst xs.reverse) (fun b ob q => Heap.get?_push_of_some _ q) (Nat.le_refl _) ?_, rfl, q _ (I5.hok.fresh (Nat.le_refl _))⟩
    exact ⟨by rw [List.length_reverse]; exact hz, _, 0, r.reverse, Heap.get?_push_size _ rfl⟩
  · obtain ⟨its, r, ht, hz⟩ := I5.tuple hx
    have hlen := r.length
    refine tail_any (ops := [.ref a, .ref s4.heap.objs.size]) ht.typeIs (PyProof.Rows.slot_tuple_getitem.lookup) ?_ (by with_unfolding_all rfl)
    refine getItem_tuple_rev ht (Heap.IsSliceOf.new _ vl vu vs) pl pu ps ?_ (by rw [List.size_toArray]; omega)
    refine ⟨.ref _, _, I5.laid (t' := s4.toks) (o := .tup xs.reverse) (fun b ob q => Heap.get?_push_of_some _ q) (Nat.le_refl _) ?_, rfl, q _ (I5.hok.fresh (Nat.le_refl _))⟩
    exact ⟨by rw [List.length_reverse]; exact hz, _, r.reverse, IsTup.new _ _⟩
end
section
variable [Wd]
variable {M : ME} {xr : XRel} {T : List FD} {n b : Nat} {B : BB}
theorem dps_reverse {K : PySem.W.Frag} {F : Hp} : ∀ {vs : List V} {ds : List PyData}, DpAll K F vs ds → DpAll K F vs.reverse ds.reverse := by
  have app : ∀ {vs vs2 : List V} {ds ds2 : List PyData}, DpAll K F vs ds → DpAll K F vs2 ds2 → DpAll K F (vs ++ vs2) (ds ++ ds2) := by
    intro vs
    induction vs with
    | nil => intro vs2 ds ds2 h h2; cases h; exact h2
    | cons v vs ih => intro vs2 ds ds2 h h2; cases h with | cons h1 h3 => exact .cons h1 (ih h3 h2)
  intro vs
  induction vs with
  | nil => intro ds h; cases h; exact .nil
  | cons v vs ih =>
    intro ds h
    cases h with
    | cons h1 h3 =>
      rw [List.reverse_cons, List.reverse_cons]
      exact app (ih h3) (.cons h1 .nil)
theorem snd_rev {x : E} (hx : SndE M xr T n b B x) : SndE M xr T n b B (.rev x) := by
  intro X Wx sc p k h
  cases p <;> try (simp only [matE, Bool.false_eq_true] at h; done)
  rename_i pa ps pos
  cases ps <;> try (simp [matE] at h; done)
  rename_i pl ph pst pos2
  cases pl <;> try (simp [matE] at h; done)
  cases ph <;> try (simp [matE] at h; done)
  cases pst <;> try (simp [matE] at h; done)
  rename_i pst
  cases pst <;> try (simp [matE] at h; done)
  rename_i o pc pos3
  cases o <;> try (simp [matE] at h; done)
  cases pc <;> try (simp [matE] at h; done)
  rename_i c k1 pos4
  cases c <;> try (simp [matE] at h; done)
  rename_i i
  by_cases hi : i = 1
  · subst hi
    simp only [matE] at h
    refine SE.of_plain ((pe_revA (hx X Wx sc _ k h).pe).weak fun σ H Q q => ?_) (fun _ => rfl) rfl
    simp only [tE, evE] at q
    refine bind1 (ra := evE b (callN T n) x) q fun m F env hq H w v S r q => ?_
    unfold evRev at q
    split at q
    · rename_i xs e
      obtain ⟨a, vs, rfl, sq, dd⟩ := (now_of S.hr r e).list S.hr.sub
      exact ⟨a, vs, rfl, .inl ⟨sq, fun p hp => PostE.newF q S hp (dp_newL S.hr hp (dps_reverse dd))⟩⟩
    · rename_i xs e
      obtain ⟨a, vs, rfl, sq, dd, dx⟩ := (now_of S.hr r e).tuple S.hr.sub
      exact ⟨a, vs, rfl, .inr ⟨sq, fun p hp => PostE.newF q S hp (dp_newT S.hr hp (dps_reverse dd))⟩⟩
    · exact q.elim
  · exact absurd h (by simp [matE, hi])
end
end Ev

/-! EvSt: sorted(tuple). -/
namespace Ev
open PySem PySem.Calls PyProof.Rows PySem.W
section
variable {prog : Program} {w : World} {A : Around} {E : Value → Shared → Prop} {s : Shared}
theorem collect_tup {l : Addr} {vs : List Value} {Q : List Value → Shared → Prop} (hl : IsTup s.heap l vs.toArray)
    (h : Q vs { s with heap := (s.heap.push (seqObj "list" #[] 0)).update s.heap.objs.size (Obj.mapSeq (· ++ vs.toArray)) }) (hsz : vs.length ≤ sizeLine := by size_fits) :
    wpAny (model prog w) A (collect (.ref l)) Q E s := by
  obtain ⟨o, ho, hc, n, hd⟩ := id hl
  unfold collect
  refine wpAny_bind (wpAny_runValue (codeAny_builtin entry_proto_collect' ?_))
  show wpAny _ _ (do again (.builtin "list.__iadd__" ⟨[← newList [], .ref l], []⟩)) _ _ s
  refine wpAny_bind (wpAny_newList (wpAny_pure ⟨Code.quiet_builtin _ (by decide +kernel), codeAny_builtin entry_list_iadd' ?_⟩))
  show wpAny _ _ (Builtin.List.listExtendWith (.ref s.heap.objs.size) (.ref l) (.ref s.heap.objs.size)) _ _ { s with heap := s.heap.push (seqObj "list" #[] 0) }
  unfold Builtin.List.listExtendWith
  have ho' : (s.heap.push (seqObj "list" #[] 0)).get? l = some o := Heap.get?_push_of_some _ ho
  refine wpAny_bind (wpAny_typeOf (T := "tuple") ⟨o, ho', hc⟩ ?_)
  have ht : (Value.type "tuple" == Value.type "tuple") = true := by rfl
  rw [if_pos (by rw [ht]; simp)]
  refine wpAny_bind (listItems_at ho' hd ?_)
  refine wpAny_bind (listItems_at (xs := #[]) (n := 0) (Heap.get?_push_size _ rfl) rfl ?_)
  rw [if_neg (by simp)]
  refine wpAny_bind (listUpdate_at (xs := #[]) (n := 0) (Heap.get?_push_size _ rfl) rfl ?_ (Nat.zero_le _) (by show (#[] ++ vs.toArray).size ≤ sizeLine + 1; simp only [Array.size_append, List.size_toArray, List.length_nil]; omega))
  refine wpAny_pure ?_
  show wpAny (model prog w) A (do
      let o ← load s.heap.objs.size
      match o.data with
      | .seq xs _ => pure xs.toList
      | _ => unsupported "internal:collect") Q E { s with heap := (s.heap.push (seqObj "list" #[] 0)).update s.heap.objs.size (Obj.mapSeq (· ++ vs.toArray)) }
  refine wpAny_bind (wpAny_load (get?_update_seq (Heap.get?_push_size _ rfl) _) ?_)
  show wpAny _ _ (pure ((#[] : Array Value) ++ vs.toArray).toList) Q E _
  rw [show ((#[] : Array Value) ++ vs.toArray).toList = vs by simp]
  exact wpAny_pure h
theorem sorted_of_sortT {l : Addr} {vs : List Value} {kw : List (Str × Value)} {Q : Value → Shared → Prop} (hl : IsTup s.heap l vs.toArray) (hL : vs.length ≤ sizeLine) (ha1 : argsOk "sorted" ⟨[.ref l], kw⟩) (ha2 : ∀ x, argsOk "list.sort" ⟨[.ref x], kw⟩)
    (body : ∀ E' : Value → Shared → Prop, wpAny (model prog w) A.in1.in1 (Builtin.«list.sort» ⟨[.ref (s.heap.objs.size + 1)], kw⟩) (fun f s' => f = .done (.ret .none) ∧ Q (.ref (s.heap.objs.size + 1)) s') E' { s with heap := copyHeap s.heap vs }) :
    wpAny (model prog w) A (call (.builtin "sorted") [.ref l] kw) Q E s := by
  refine call_function_entry_kw kind_sorted plain_sorted entry_sorted ha1 ?_
  unfold Builtin.«sorted»
  refine wpAny_bind (m := checkCount "sorted" 1 1 _) (wpAny_pure ?_)
  refine wpAny_bind (collect_tup hl ?_ hL)
  refine wpAny_bind (wpAny_newList ?_ hL)
  have hsz : ((s.heap.push (seqObj "list" #[] 0)).update s.heap.objs.size (Obj.mapSeq (· ++ vs.toArray))).objs.size = s.heap.objs.size + 1 := by
    rw [Heap.size_update, size_push']
  show wpAny _ _ _ _ _ { s with heap := copyHeap s.heap vs }
  rw [hsz]
  refine wpAny_bind (wpAny_holding (wpAny_call_entry_kw slot_list_sort ⟨_, copyHeap_at s.heap vs, rfl⟩ entry_list_sort ?body (ha2 _)))
  case body =>
    show wpAny (model prog w) A.in1.in1 (Builtin.«list.sort» ⟨[.ref (s.heap.objs.size + 1)], kw⟩) _ _ _
    refine wpAny_mono (body _) (fun f s' hf => ?_) fun _ _ e => e
    obtain ⟨rfl, hq⟩ := hf
    exact ⟨_, rfl, wpAny_pure ⟨_, rfl, hq⟩⟩
theorem sorted_valsT {κ : PyProof.Rows.KeyKind} {l : Addr} {vs : List Value} {Q : Value → Shared → Prop} (hl : IsTup s.heap l vs.toArray) (S : SortsAt prog w A.in1.in1 { s with heap := sortingHeap (copyHeap s.heap vs) (s.heap.objs.size + 1) vs } κ vs) (hL : vs.length ≤ sizeLine)
    (h : Q (.ref (s.heap.objs.size + 1)) { s with heap := sortedAll s.heap vs (sortVals κ false vs vs).toArray }) : wpAny (model prog w) A (call (.builtin "sorted") [.ref l]) Q E s :=
  sorted_of_sortT hl hL (args_sorted1 _) (fun _ => args_list_sort _) fun _ => list_sort_vals (s := { s with heap := copyHeap s.heap vs }) (copyHeap_at s.heap vs) S hL ⟨rfl, h⟩
theorem sorted_dataT {β : Type} {R : Value → β → Prop} {enc : β → PyData} {bs : List β} {vs : List Value} {l : Addr} {Q : Value → Shared → Prop} (hl : IsTup s.heap l vs.toArray) (e : EachIs R vs bs) (er : EachIs (fun v b => ∃ as, Reads s.heap v (enc b) as) vs bs) (hal : AllAlike (bs.map enc)) (hk : Sortable (bs.map enc)) (hL : bs.length ≤ sizeLine)
    (hu : ∀ b, b ∈ bs → A.units + 2 + (enc b).depth < cLine) (h : ∀ out, out.length = bs.length → EachIs R out (bs.mergeSort (dataLe false enc)) → Q (.ref (s.heap.objs.size + 1)) { s with heap := sortedAll s.heap vs (List.toArray out) }) :
    wpAny (model prog w) A (call (.builtin "sorted") [.ref l]) Q E s := by
  have er' : EachIs (fun v b => ∃ as, Reads (sortingHeap (copyHeap s.heap vs) (s.heap.objs.size + 1) vs) v (enc b) as) vs bs := er.mono fun _ _ ⟨as, r⟩ => ⟨as, PyProof.Rows.Reads.keeps (fun _ _ => sorting_copy_old) r⟩
  refine sorted_valsT hl (SortsAt.data (s := { s with heap := sortingHeap (copyHeap s.heap vs) (s.heap.objs.size + 1) vs }) (each_map (R := fun v d => ∃ as, Reads (sortingHeap (copyHeap s.heap vs) (s.heap.objs.size + 1) vs) v d as) enc er') hal hk (fun d hd => ?_)) (by rw [e.length]; exact hL)
    (h _ (by rw [sortVals_length false rfl]; exact e.length) (sortVals_data false e er' hal))
  obtain ⟨b, hb, rfl⟩ := List.mem_map.mp hd
  exact hu b hb
end
end Ev

/-! EvS: set(xs) of a list of ints, and sorted of it. -/
namespace Ev
open PySem PySem.Spec PyProof.Rows L2
/-- an empty set, as the model makes it -/
def oS (w : World) : Obj := { cls := .type "set", dict := none, data := .set #[] 0 (.fresh 0 0 (!w.params.followText "set-order")) }
section
variable {P : Program} {w : World} {A : Around} {E : Value → Shared → Prop} {s : Shared}
theorem new_oS {h : Heap} : (h.push (oS w)).get? h.objs.size = some (oS w) := Heap.get?_push_size _ rfl
theorem code_oS (a : Value) {Q : Value → Shared → Prop} (h : Q (.ref s.heap.objs.size) { s with heap := s.heap.push (oS w) }) :
    codeAny (model P w) A (.call (.builtin "set.__new__") ⟨[.type "set", a], []⟩) (wants Q E) s := code_set_led1 a h
set_option maxHeartbeats 3200000 in
theorem set_list {l : Addr} {xs : Array Value} (ns : List Int) {Q : Value → Shared → Prop} (hh : A.handled = none) (hl : s.heap.IsList l xs) (hit : IntsAre xs.toList ns) (hb : ns.length + 1 < scanBound)
    (h : ∀ (h' : Heap) (tk c : Nat), SetR w h' s.heap.objs.size (fun j => decide (j ∈ ns)) c → c ≤ ns.length → (∀ b o, s.heap.get? b = some o → h'.get? b = some o) → Q (.ref s.heap.objs.size) { s with heap := h', toks := tk }) :
    wpAny (model P w) A (call (.type "set") [.ref l]) Q E s := by
  have sz : xs.size = ns.length := by simpa using IntsAre.length hit
  have ⟨_, _, _⟩ := F.called_set.mro
  have m1 := F.called_set.made
  have m2 := F.called_set.sub
  have m3 := F.called_set.notType
  have m4 := F.called_set.canCreate
  have m5 := F.typeCall_set_1 (.ref l)
  refine wpAny_call (codeAny_of_tree (show wpAny _ _ (callAny (.type "set") _) _ _ _ from ?_))
  refine wpAny_pure ⟨Code.quiet_builtin _ (by decide +kernel), codeAny_builtin F.entry_type_call ?_⟩
  have hw := Around.under_plain (A := A) (weight_type_call_type "set" [.ref l] []) rfl
  rw [hw]
  repeat (any_goals (first | assumption | wp_step))
  refine codeAny_mono (code_oS (.ref l) (E := E) (Q := fun x z => x = .ref s.heap.objs.size ∧ z = { s with heap := s.heap.push (oS w) }) ⟨rfl, rfl⟩) fun r z hr => ?_
  rcases r with e | (x | _ | _ | _) <;> first | exact hr | exact hr.elim | skip
  obtain ⟨rfl, rfl⟩ := hr
  have isT : Shared.TypeIs { s with heap := s.heap.push (oS w) } (.ref s.heap.objs.size) "set" := ⟨_, new_oS, rfl⟩
  have i1 := F.called_set.init.lookup
  have i2 := F.called_set.init.bind (.ref s.heap.objs.size)
  repeat (any_goals (first | assumption | wp_step))
  refine codeAny_mono (codeAny_call_builtin (R := wants (fun r z => r = .none ∧ ∃ h' tk c, z = { s with heap := h', toks := tk } ∧ SetR w h' s.heap.objs.size (fun j => decide (j ∈ ns)) c ∧ c ≤ ns.length ∧ (∀ b o, s.heap.get? b = some o → h'.get? b = some o)) E)
    F.called_set.init.plain F.entry_set_init (check_set_init_1 isT ?_)) fun r z hz => ?_
  · obtain ⟨⟨cl, di, da, sl⟩, ho, e1, k, e2⟩ := hl
    simp only at e1 e2
    subst e1 e2
    have ho' : (s.heap.push (oS w)).get? l = some { cls := .type "list", dict := di, data := .seq xs k, slots := sl } := Heap.get?_push_of_some _ ho
    have f1 := F.sub_list_set
    have f2 := F.sub_list_frozenset
    have f3 : (Value.type "list" == Value.type "dict") = false := by decide
    have hl' : (s.heap.push (oS w)).IsList l xs := ⟨_, ho', rfl, k, rfl⟩
    unfold Builtin.«set.__init__» noKeywords Builtin.Frozenset.updateFrom
    generalize hPI : pyIter = PI
    wp_walk
    subst hPI
    refine wpAny_pyIter_list hl' (wpAny_bind (wpAny_runValue ?_))
    have lt : l < s.heap.objs.size := Heap.lt_size ho
    have sz1 : (s.heap.push (oS w)).objs.size = s.heap.objs.size + 1 := Heap.size_push ..
    refine set_update_ints ((Walks.list (show A.in1.in1.in1.handled = none by simp [hh]) _ l (by rw [sz1]; exact Nat.ne_of_lt (Nat.lt_succ_of_lt lt)) xs).toS) s.heap.objs.size
      (by simp only [List.mem_cons, List.not_mem_nil, or_false, not_or]; rw [sz1]; exact ⟨Nat.ne_of_lt (Nat.lt_succ_self _), Nat.ne_of_gt lt⟩) ns sz hb (fun i v hv => ?_) (xs.size - 0) 0 _ (by omega) (Nat.zero_le _)
      ⟨⟨_, Heap.get?_push_size _ rfl, rfl, rfl⟩, hl'.push _⟩ ⟨0, Nat.le_refl 0, setR_new_at (Heap.get?_push_of_some _ new_oS)⟩ ?_
    · have hi : i < ns.length := by rw [← sz]; exact (Array.getElem?_eq_some_iff.mp hv).1
      obtain ⟨t, e⟩ := IntsAre.int_at hit i v (by rw [Array.getElem?_toList]; exact hv)
      exact ⟨ns[i], t, List.getElem?_eq_getElem hi, by rw [e, List.getD_eq_getElem?_getD, List.getElem?_eq_getElem hi] <;> rfl⟩
    · rintro ⟨h', g2, d', tk', os'⟩ c hm hc hS
      obtain rfl : g2 = s.gens := hm.gens
      obtain rfl : d' = s.drawn := hm.drawn
      obtain rfl : os' = s.os := hm.os
      refine show wpAny _ _ _ _ _ _ from wpAny_pure (show wpAny _ _ (ret Value.none) _ _ _ from ?_)
      rw [sz] at hc
      refine wpAny_pure ⟨rfl, h', tk', c, rfl, hS, hc, fun b o e => ?_⟩
      have b0 : b < s.heap.objs.size := Heap.lt_size e
      refine hm.heap b o ?_ (Heap.get?_push_of_some _ (Heap.get?_push_of_some _ e))
      simp only [List.mem_cons, List.not_mem_nil, or_false, not_or]
      rw [sz1]
      exact ⟨Nat.ne_of_lt b0, Nat.ne_of_lt (Nat.lt_succ_of_lt b0)⟩
  · rcases r with e | (x | _ | _ | _) <;> first | exact hz | exact hz.elim | skip
    obtain ⟨rfl, h', tk, c, rfl, k1, k2, k3⟩ := hz
    repeat (any_goals (first | assumption | wp_step))
    exact h _ _ _ k1 k2 k3
end
section
variable {X : Cx}
/-- set(xs) of ints -/
theorem cr_setL : CallR X (.type "set") (fun vs H Q => X.calm = true ∧ ∃ (a : Addr) (ns : List Int), vs = [V.ref a] ∧ SqL X.K H a (ns.map V.int) ∧ ns.length < 4000 ∧ ∀ c p, c ≤ ns.length → H p = none → Q (.ref p) (upd H p (SetO X.w p (fun j => decide (j ∈ ns)) c))) := by
  intro pins s σ H vs us Q I r h
  obtain ⟨hc, a, ns, rfl, sq, hn, q⟩ := h
  obtain ⟨u, rfl, ru⟩ := vals1 r
  cases ru
  obtain ⟨its, rv, pl, _⟩ := I.list sq
  refine set_list ns (I.ok.hd hc) pl.isList (by simpa using rv.ints) (by unfold scanBound; omega) fun h' tk c R hle keep => ?_
  refine ⟨.ref s.heap.objs.size, _, I.laid (t' := tk) (o := SetO X.w s.heap.objs.size (fun j => decide (j ∈ ns)) c) keep (Nat.le_refl _) (setO_new R), rfl, q c _ hle (I.hok.fresh (Nat.le_refl _))⟩
end
end Ev

/-! EvY: repr, and the least, the greatest, the order of data of one kind. -/
namespace Ev
open PySem PySem.Spec L2
variable [Wd]
section
variable {K : PySem.W.Frag}
mutual
theorem dp_noDict {F : Hp} : ∀ (d : PyData) (v : V), Dp K F v d → d.hasDict = false
  | .none, _, _ => rfl
  | .bool b, _, _ => rfl
  | .int i, _, _ => rfl
  | .str x, _, _ => rfl
  | .list ds, _, h => by
    cases h with
    | lst hs ha => simp only [PyData.hasDict]; exact dps_noDict ds _ ha
  | .tuple ds, _, h => by
    cases h with
    | tup hs ha => simp only [PyData.hasDict]; exact dps_noDict ds _ ha
  | .dict _, _, h => by cases h
theorem dps_noDict {F : Hp} : ∀ (ds : List PyData) (vs : List V), DpAll K F vs ds → PyData.hasDictAll ds = false
  | [], _, _ => rfl
  | d :: ds, _, h => by
    cases h with
    | cons h1 h2 => simp only [PyData.hasDictAll, dp_noDict d _ h1, dps_noDict ds _ h2, Bool.or_self]
end
end
section
variable {X : Cx} {xr : XRel} {B : BB} {Wx : WX}
theorem shownP_ok {d r : PyData} (h : shownP d = some r) : r = .str d.shown ∧ d.showable = true ∧ d.depth ≤ 150 ∧ d.shown.length ≤ SZ := by
  unfold shownP at h
  split at h
  · rename_i hc
    simp only [Bool.and_eq_true, decide_eq_true_eq] at hc
    cases h
    exact ⟨rfl, hc.1, of_decide_eq_true hc.2.1, hc.2.2⟩
  · cases h
theorem cr_repr (gd : X.A.guards = some []) (hu : X.A.units + 200 < cLine) : CallR X (.builtin "repr") (rB X.K xr B Wx (evB .repr)) := by
  intro pins s σ H xs us Q I rs hq
  obtain ⟨m, F, env, h, σ', ws, S, r, p⟩ := hq
  match ws, r, p with
  | [w], r, p =>
    obtain ⟨v, rfl, r'⟩ := one_of r
    simp only [evB] at p
    obtain ⟨d, e, p⟩ := liftO_cases p
    rw [Option.bind_eq_some_iff] at e
    obtain ⟨x, e1, e2⟩ := e
    obtain ⟨rfl, hs, hd, hz⟩ := shownP_ok e2
    have q : Q (.str x.shown) H := PostE.now p S (.str _)
    have szE := sz_eq
    have dp := toDD_dp S.hr r' e1
    obtain ⟨u, rfl, ru⟩ := vals1 rs
    have nd := dp_noDict x _ dp
    obtain ⟨as, rd⟩ := Dp.reads I x v u dp ru
    have big : ∀ a, u = Value.ref a → wpAny (model X.prog X.w) X.A (call (.builtin "repr") [u]) (EP X pins σ Q) X.xe s := by
      intro a ea
      subst ea
      exact PySem.repr_of_reads' rd hs (fun z => by rw [nd] at z; cases z) gd (by omega) (fun _ _ z => z) (fun h' t tk k => ⟨.str x.shown, H, I.kept (t' := tk) k, ⟨_, rfl⟩, q⟩) (by omega)
    cases x
    case none => cases dp; cases ru; exact PySem.P.repr_of_none ⟨.str _, H, I.tok _, ⟨_, rfl⟩, q⟩
    case bool b => cases dp; cases ru; exact PySem.P.repr_of_bool ⟨.str _, H, I.tok _, ⟨_, rfl⟩, q⟩
    case int i =>
      cases dp
      obtain ⟨t, rfl⟩ := ru
      exact PySem.P.repr_of_int (by simpa [PyData.showable] using hs) ⟨.str _, H, I.tok _, ⟨_, rfl⟩, q⟩
    case str z =>
      cases dp
      obtain ⟨t, rfl⟩ := ru
      exact PySem.P.repr_of_str ⟨.str _, H, I.tok _, ⟨_, rfl⟩, q⟩ (by simp only [PyData.shown] at hz; omega)
    case list ds =>
      cases dp
      exact big _ ru
    case tuple ds =>
      cases dp
      exact big _ ru
    case dict ds => cases dp
  | [], _, p => exact p.elim
  | _ :: _ :: _, _, p => exact p.elim
/-- an item that reads as one of the data is that datum -/
theorem item_of {K : PySem.W.Frag} {pins : List (Addr × Obj)} {σ : L2.St} {F H : Hp} {s : Shared} (hK : X.K = K) (I : Inv X pins σ H s) (le : HpLe F H) {vs : List V} {ds : List PyData} {its : List Value} (dd : DpAll K F vs ds) (rv : Vals vs its) {i : Nat} {u : Value} {z : PyData} {h' : Heap} {bs : List Addr}
    (hv : its[i]? = some u) (hr : Reads h' u z bs) (hk : ∀ b o, s.heap.get? b = some o → h'.get? b = some o) (hz : z.plain = true) : ∃ v, RelV v u ∧ Dp K F v z := by
  subst hK
  have hi : i < vs.length := by rw [rv.length]; exact (List.getElem?_eq_some_iff.mp hv).1
  obtain ⟨u', e1, ru⟩ := rv.get (i := i) (x := vs[i]) (by simp [hi])
  rw [hv] at e1
  cases e1
  have hd : i < ds.length := by rw [← dd.length]; exact hi
  obtain ⟨v, e2, dv⟩ := dd.get (i := i) (x := ds[i]) (by simp [hd])
  have e3 : vs[i] = v := by
    have : vs[i]? = some vs[i] := by simp [hi]
    rw [this] at e2
    exact Option.some.inj e2
  rw [e3] at ru
  obtain ⟨as, rd⟩ := Dp.reads I ds[i] v u (dp_mono le _ _ dv) ru
  have a1 := SeqAt.readOf_plain (dp_plain _ _ dv) (PyProof.Rows.Reads.keeps hk rd)
  have a2 := SeqAt.readOf_plain hz hr
  have : z = ds[i] := by rw [← a2, a1]
  rw [this]
  exact ⟨v, ru, dv⟩
theorem minD_mem (x : PyData) : ∀ r : List PyData, PySem.W.minD x r ∈ x :: r := by
  intro r
  unfold PySem.W.minD
  induction r generalizing x with
  | nil => simp
  | cons y r ih =>
    rw [List.foldl_cons]
    have := ih (if PySem.W.dataLt y x = true then y else x)
    rcases List.mem_cons.mp this with e | e
    · rw [e]
      split <;> simp
    · exact List.mem_cons_of_mem _ (List.mem_cons_of_mem _ e)
theorem maxD_mem (x : PyData) : ∀ r : List PyData, PySem.W.maxD x r ∈ x :: r := by
  intro r
  unfold PySem.W.maxD
  induction r generalizing x with
  | nil => simp
  | cons y r ih =>
    rw [List.foldl_cons]
    have := ih (if PySem.W.dataLt x y = true then y else x)
    rcases List.mem_cons.mp this with e | e
    · rw [e]
      split <;> simp
    · exact List.mem_cons_of_mem _ (List.mem_cons_of_mem _ e)
theorem plain_mem : ∀ {ds : List PyData} {z : PyData}, PyData.plainAll ds = true → z ∈ ds → z.plain = true
  | [], _, _, h => by simp at h
  | d :: ds, z, e, h => by
    simp only [PyData.plainAll, Bool.and_eq_true] at e
    rcases List.mem_cons.mp h with rfl | h
    · exact e.1
    · exact plain_mem e.2 h
theorem notNo_ok {x : PyData} (h : notNo x = true) : x ≠ .none := by
  intro e; subst e; simp [notNo] at h
theorem alkAll_ok {xs : List PyData} (h : alkAll xs = true) : PySem.W.AlikeAll xs := by
  unfold alkAll at h
  simp only [List.all_eq_true, Bool.and_eq_true] at h
  exact ⟨fun x hx y hy => (h x hx).2 y hy, fun x hx => notNo_ok (h x hx).1⟩
theorem intsOf_eq : ∀ {ds : List PyData} {ns : List Int}, intsOf ds = some ns → ds = ns.map .int
  | [], _, e => by simp [intsOf] at e; subst e; rfl
  | d :: ds, _, e => by
    cases d <;> simp only [intsOf, reduceCtorEq] at e
    rw [Option.map_eq_some_iff] at e
    obtain ⟨ns, e, rfl⟩ := e
    rw [intsOf_eq e]
    rfl
theorem alike_intsA (ns : List Int) : PySem.W.AlikeAll (ns.map .int) := by
  refine ⟨fun x hx y hy => ?_, fun x hx => ?_⟩
  · obtain ⟨a, _, rfl⟩ := List.mem_map.mp hx
    obtain ⟨b, _, rfl⟩ := List.mem_map.mp hy
    simp [PySem.W.alike]
  · obtain ⟨a, _, rfl⟩ := List.mem_map.mp hx
    simp
theorem seq_now {m : List Addr} {F H : Hp} {h : Hq} (S : HR X.K B.c m F h H) {w : W} {v : V} {d : PyData} {xs : List PyData} (r : WR X.K m F v w) (e : toD h w = some d) (e2 : seqOf d = some xs) :
    ∃ a vs, v = .ref a ∧ DpAll X.K F vs xs ∧ (SqL X.K H a vs ∨ SqT X.K H a vs) := by
  cases d <;> simp only [seqOf, reduceCtorEq] at e2
  · cases e2
    obtain ⟨a, vs, rfl, sq, dd⟩ := (now_of S r e).list S.sub
    exact ⟨a, vs, rfl, dd, .inl sq⟩
  · cases e2
    obtain ⟨a, vs, rfl, sq, dd, _⟩ := (now_of S r e).tuple S.sub
    exact ⟨a, vs, rfl, dd, .inr sq⟩
theorem foldMax_ok : ∀ (ns : List Int) (n : Int), ns.foldl max n ∈ n :: ns ∧ ∀ y ∈ n :: ns, y ≤ ns.foldl max n
  | [], n => by simp
  | k :: ns, n => by
    obtain ⟨h1, h2⟩ := foldMax_ok ns (max n k)
    rw [List.foldl_cons]
    refine ⟨?_, fun y hy => ?_⟩
    · rcases List.mem_cons.mp h1 with e | e
      · rw [e]
        by_cases q : k ≤ n
        · rw [Int.max_eq_left q]; simp
        · rw [Int.max_eq_right (by omega)]; simp
      · simp [e]
    · have hb := h2 (max n k) List.mem_cons_self
      rcases List.mem_cons.mp hy with e | hy
      · subst e; have := Int.le_max_left y k; omega
      · rcases List.mem_cons.mp hy with e | hy
        · subst e; have := Int.le_max_right n y; omega
        · exact h2 y (List.mem_cons_of_mem _ hy)
theorem foldMin_ok : ∀ (ns : List Int) (n : Int), ns.foldl min n ∈ n :: ns ∧ ∀ y ∈ n :: ns, ns.foldl min n ≤ y
  | [], n => by simp
  | k :: ns, n => by
    obtain ⟨h1, h2⟩ := foldMin_ok ns (min n k)
    rw [List.foldl_cons]
    refine ⟨?_, fun y hy => ?_⟩
    · rcases List.mem_cons.mp h1 with e | e
      · rw [e]
        by_cases q : n ≤ k
        · rw [Int.min_eq_left q]; simp
        · rw [Int.min_eq_right (by omega)]; simp
      · simp [e]
    · have hb := h2 (min n k) List.mem_cons_self
      rcases List.mem_cons.mp hy with e | hy
      · subst e; have := Int.min_le_left y k; omega
      · rcases List.mem_cons.mp hy with e | hy
        · subst e; have := Int.min_le_right n y; omega
        · exact h2 y (List.mem_cons_of_mem _ hy)
theorem maxI_ok : ∀ {ns : List Int} {m : Int}, maxI ns = some m → m ∈ ns ∧ ∀ y ∈ ns, y ≤ m
  | [], _, h => by cases h
  | n :: ns, m, h => by
    unfold maxI at h
    cases e : maxI ns with
    | none =>
      rw [e] at h
      cases h
      have : ns = [] := by
        cases ns with
        | nil => rfl
        | cons x l => unfold maxI at e; split at e <;> cases e
      subst this
      simp
    | some k =>
      rw [e] at h
      cases h
      obtain ⟨h1, h2⟩ := maxI_ok e
      split
      · refine ⟨by simp, fun y hy => ?_⟩
        rcases List.mem_cons.mp hy with e | hy
        · omega
        · have := h2 y hy; omega
      · refine ⟨by simp [h1], fun y hy => ?_⟩
        rcases List.mem_cons.mp hy with e | hy
        · omega
        · exact h2 y hy
theorem minI_ok : ∀ {ns : List Int} {m : Int}, minI ns = some m → m ∈ ns ∧ ∀ y ∈ ns, m ≤ y
  | [], _, h => by cases h
  | n :: ns, m, h => by
    unfold minI at h
    cases e : minI ns with
    | none =>
      rw [e] at h
      cases h
      have : ns = [] := by
        cases ns with
        | nil => rfl
        | cons x l => unfold minI at e; split at e <;> cases e
      subst this
      simp
    | some k =>
      rw [e] at h
      cases h
      obtain ⟨h1, h2⟩ := minI_ok e
      split
      · refine ⟨by simp, fun y hy => ?_⟩
        rcases List.mem_cons.mp hy with e | hy
        · omega
        · have := h2 y hy; omega
      · refine ⟨by simp [h1], fun y hy => ?_⟩
        rcases List.mem_cons.mp hy with e | hy
        · omega
        · exact h2 y hy
theorem maxP_ok {xs : List PyData} {r : PyData} (h : maxP xs = some r) : ∃ x l, xs = x :: l ∧ PySem.W.AlikeAll xs ∧ PyData.depthAll xs ≤ 150 ∧ r = PySem.W.maxD x l := by
  unfold maxP at h
  split at h
  · rename_i ns e
    have e := intsOf_eq e
    subst e
    rw [Option.map_eq_some_iff] at h
    obtain ⟨k, e, rfl⟩ := h
    obtain ⟨h1, h2⟩ := maxI_ok e
    cases ns with
    | nil => simp at h1
    | cons n ns =>
      refine ⟨_, _, rfl, alike_intsA _, by rw [PySem.W.depth_ints]; omega, ?_⟩
      rw [PySem.W.maxD_ints]
      obtain ⟨g1, g2⟩ := foldMax_ok ns n
      have a := h2 _ g1
      have b := g2 _ h1
      have : k = ns.foldl max n := by omega
      rw [this]
  · split at h
    · cases h
    · rename_i x l _
      split at h
      · rename_i hc
        simp only [Bool.and_eq_true] at hc
        cases h
        exact ⟨x, l, rfl, alkAll_ok hc.1, of_decide_eq_true hc.2, rfl⟩
      · cases h
theorem minP_ok {xs : List PyData} {r : PyData} (h : minP xs = some r) : ∃ x l, xs = x :: l ∧ PySem.W.AlikeAll xs ∧ PyData.depthAll xs ≤ 150 ∧ r = PySem.W.minD x l := by
  unfold minP at h
  split at h
  · rename_i ns e
    have e := intsOf_eq e
    subst e
    rw [Option.map_eq_some_iff] at h
    obtain ⟨k, e, rfl⟩ := h
    obtain ⟨h1, h2⟩ := minI_ok e
    cases ns with
    | nil => simp at h1
    | cons n ns =>
      refine ⟨_, _, rfl, alike_intsA _, by rw [PySem.W.depth_ints]; omega, ?_⟩
      rw [PySem.W.minD_ints]
      obtain ⟨g1, g2⟩ := foldMin_ok ns n
      have a := h2 _ g1
      have b := g2 _ h1
      have : k = ns.foldl min n := by omega
      rw [this]
  · split at h
    · cases h
    · rename_i x l _
      split at h
      · rename_i hc
        simp only [Bool.and_eq_true] at hc
        cases h
        exact ⟨x, l, rfl, alkAll_ok hc.1, of_decide_eq_true hc.2, rfl⟩
      · cases h
theorem two_of {m : List Addr} {F : Hp} {vs : List V} {w w2 : W} (r : WRs X.K m F vs [w, w2]) : ∃ v v2, vs = [v, v2] ∧ WR X.K m F v w ∧ WR X.K m F v2 w2 := by
  cases r with
  | cons r1 r2 =>
    cases r2 with
    | cons r2 r3 =>
      cases r3
      exact ⟨_, _, rfl, r1, r2⟩
theorem cr_maxE (hc : X.calm = true) (hu : X.A.units + 200 < cLine) : CallR X (.builtin "max") (rB X.K xr B Wx (evB .max)) := by
  intro pins s σ H xs us Q I rs hq
  obtain ⟨m, F, env, h, σ', ws, S, r, p⟩ := hq
  match ws, r, p with
  | [w], r, p =>
    obtain ⟨v, rfl, r'⟩ := one_of r
    simp only [evB] at p
    obtain ⟨d, e, p⟩ := liftO_cases p
    rw [Option.bind_eq_some_iff] at e
    obtain ⟨ds, e, ex⟩ := e
    rw [Option.bind_eq_some_iff] at e
    obtain ⟨d0, e, eds⟩ := e
    obtain ⟨a, vs, rfl, dd, sq⟩ := seq_now S.hr r' e eds
    obtain ⟨x, l, rfl, al, hd, rfl⟩ := maxP_ok ex
    obtain ⟨u, rfl, ru⟩ := vals1 rs
    cases ru
    have pl := dps_plain _ _ dd
    have hz := plain_mem pl (maxD_mem x l)
    have dd' := dps_mono S.hr.sub _ _ dd
    rcases sq with sq | sq
    · obtain ⟨its, rv, hl, _⟩ := I.list sq
      obtain ⟨as, h4⟩ := Dp.readsAll I (x :: l) vs its dd' rv
      refine PySem.W.max_list_data (vs := its.toArray) (I.ok.hd hc) hl.isList (by simpa using h4) al (by omega) fun i u h' tk bs hv hr hk => ?_
      obtain ⟨v, rvu, dv⟩ := item_of rfl I S.hr.sub dd rv (by simpa using hv) hr hk hz
      exact ⟨v, H, I.kept (t' := tk) hk, rvu, PostE.now p S dv⟩
    · obtain ⟨its, rv, hl, _⟩ := I.tuple sq
      obtain ⟨as, h4⟩ := Dp.readsAll I (x :: l) vs its dd' rv
      refine PySem.W.max_tuple_data (vs := its.toArray) (I.ok.hd hc) (show s.heap.IsTuple a its.toArray from hl) (by simpa using h4) al (by omega) fun i u h' tk bs hv hr hk => ?_
      obtain ⟨v, rvu, dv⟩ := item_of rfl I S.hr.sub dd rv (by simpa using hv) hr hk hz
      exact ⟨v, H, I.kept (t' := tk) hk, rvu, PostE.now p S dv⟩
  | [], _, p => exact p.elim
  | [w, w2], r, p =>
    cases w with
    | l _ => exact (show False by simpa [evB, PostG] using p).elim
    | x _ _ => exact (show False by simpa [evB, PostG] using p).elim
    | d d =>
      cases d <;> try exact (show False by simpa [evB, PostG] using p).elim
      rename_i i
      cases w2 with
      | l _ => exact (show False by simpa [evB, PostG] using p).elim
      | x _ _ => exact (show False by simpa [evB, PostG] using p).elim
      | d e =>
        cases e <;> try exact (show False by simpa [evB, PostG] using p).elim
        rename_i j
        obtain ⟨v, v2, rfl, r1, r2⟩ := two_of r
        have r1 : Dp X.K F v (.int i) := r1
        have r2 : Dp X.K F v2 (.int j) := r2
        cases r1; cases r2
        exact call_max2 hc pins s σ H _ us Q I rs ⟨i, j, rfl, PostE.now p S (.int _)⟩
  | _ :: _ :: _ :: _, _, p => exact (show False by simpa [evB, PostG] using p).elim
theorem cr_minE (hc : X.calm = true) (hu : X.A.units + 200 < cLine) : CallR X (.builtin "min") (rB X.K xr B Wx (evB .min)) := by
  intro pins s σ H xs us Q I rs hq
  obtain ⟨m, F, env, h, σ', ws, S, r, p⟩ := hq
  match ws, r, p with
  | [w], r, p =>
    obtain ⟨v, rfl, r'⟩ := one_of r
    simp only [evB] at p
    obtain ⟨d, e, p⟩ := liftO_cases p
    rw [Option.bind_eq_some_iff] at e
    obtain ⟨ds, e, ex⟩ := e
    rw [Option.bind_eq_some_iff] at e
    obtain ⟨d0, e, eds⟩ := e
    obtain ⟨a, vs, rfl, dd, sq⟩ := seq_now S.hr r' e eds
    obtain ⟨x, l, rfl, al, hd, rfl⟩ := minP_ok ex
    obtain ⟨u, rfl, ru⟩ := vals1 rs
    cases ru
    have pl := dps_plain _ _ dd
    have hz := plain_mem pl (minD_mem x l)
    have dd' := dps_mono S.hr.sub _ _ dd
    rcases sq with sq | sq
    · obtain ⟨its, rv, hl, _⟩ := I.list sq
      obtain ⟨as, h4⟩ := Dp.readsAll I (x :: l) vs its dd' rv
      refine PySem.W.min_list_data (vs := its.toArray) (I.ok.hd hc) hl.isList (by simpa using h4) al (by omega) fun i u h' tk bs hv hr hk => ?_
      obtain ⟨v, rvu, dv⟩ := item_of rfl I S.hr.sub dd rv (by simpa using hv) hr hk hz
      exact ⟨v, H, I.kept (t' := tk) hk, rvu, PostE.now p S dv⟩
    · obtain ⟨its, rv, hl, _⟩ := I.tuple sq
      obtain ⟨as, h4⟩ := Dp.readsAll I (x :: l) vs its dd' rv
      refine PySem.W.min_tuple_data (vs := its.toArray) (I.ok.hd hc) (show s.heap.IsTuple a its.toArray from hl) (by simpa using h4) al (by omega) fun i u h' tk bs hv hr hk => ?_
      obtain ⟨v, rvu, dv⟩ := item_of rfl I S.hr.sub dd rv (by simpa using hv) hr hk hz
      exact ⟨v, H, I.kept (t' := tk) hk, rvu, PostE.now p S dv⟩
  | [], _, p => exact p.elim
  | [w, w2], r, p =>
    cases w with
    | l _ => exact (show False by simpa [evB, PostG] using p).elim
    | x _ _ => exact (show False by simpa [evB, PostG] using p).elim
    | d d =>
      cases d <;> try exact (show False by simpa [evB, PostG] using p).elim
      rename_i i
      cases w2 with
      | l _ => exact (show False by simpa [evB, PostG] using p).elim
      | x _ _ => exact (show False by simpa [evB, PostG] using p).elim
      | d e =>
        cases e <;> try exact (show False by simpa [evB, PostG] using p).elim
        rename_i j
        obtain ⟨v, v2, rfl, r1, r2⟩ := two_of r
        have r1 : Dp X.K F v (.int i) := r1
        have r2 : Dp X.K F v2 (.int j) := r2
        cases r1; cases r2
        exact call_min2 hc pins s σ H _ us Q I rs ⟨i, j, rfl, PostE.now p S (.int _)⟩
  | _ :: _ :: _ :: _, _, p => exact (show False by simpa [evB, PostG] using p).elim
theorem sortI_eq {ns ms : List Int} (h : ms.Perm ns) (p : ms.Pairwise (· ≤ ·)) : ms = sortI ns := by
  refine List.Perm.eq_of_pairwise (le := (· ≤ ·)) (fun a b _ _ h1 h2 => Int.le_antisymm h1 h2) p ?_ (h.trans (List.mergeSort_perm _ _).symm)
  have := List.pairwise_mergeSort (le := fun (a b : Int) => decide (a ≤ b)) (fun a b c h1 h2 => by simp only [decide_eq_true_eq] at *; omega) (fun a b => by simp only [Bool.or_eq_true, decide_eq_true_eq]; omega) ns
  exact this.imp fun h => of_decide_eq_true h
theorem dp_ints {K : PySem.W.Frag} {F : Hp} : ∀ ns : List Int, DpAll K F (ns.map V.int) (ns.map .int)
  | [] => .nil
  | n :: ns => .cons (.int n) (dp_ints ns)
theorem srtAll_ok {xs : List PyData} (h : srtAll xs = true) : PySem.W.Sortable xs := by
  unfold srtAll at h
  rw [Bool.or_eq_true, List.all_eq_true, List.all_eq_true] at h
  rcases h with h | h
  · refine .inl fun d hd => ?_
    have := h d hd
    cases d <;> try (simp at this; done)
    rename_i ys
    cases ys with
    | nil => simp at this
    | cons y ys => exact ⟨y, ys, rfl⟩
  · refine .inr fun d hd => ?_
    have := h d hd
    cases d <;> simp at this <;> simp
theorem each_dp {F : Hp} : ∀ {vs : List V} {ds : List PyData} {its : List Value}, DpAll X.K F vs ds → Vals vs its → PySem.W.EachIs (fun u d => ∃ v, RelV v u ∧ Dp X.K F v d) its ds
  | _, _, _, .nil, .nil => .nil
  | _, _, _, .cons h1 h2, .cons r1 r2 => .cons ⟨_, r1, h1⟩ (each_dp h2 r2)
theorem dp_each {F : Hp} : ∀ {ds : List PyData} {its : List Value}, PySem.W.EachIs (fun u d => ∃ v, RelV v u ∧ Dp X.K F v d) its ds → ∃ vs, Vals vs its ∧ DpAll X.K F vs ds
  | _, _, .nil => ⟨[], .nil, .nil⟩
  | _, _, .cons ⟨v, h1, h2⟩ t => by
    obtain ⟨vs, r, d⟩ := dp_each t
    exact ⟨v :: vs, .cons h1 r, .cons h2 d⟩
theorem depth_mem : ∀ {ds : List PyData} {d : PyData}, d ∈ ds → d.depth ≤ PyData.depthAll ds
  | [], _, h => by simp at h
  | x :: ds, d, h => by
    simp only [PyData.depthAll]
    rcases List.mem_cons.mp h with rfl | h
    · omega
    · have := depth_mem h; omega
theorem cr_sortedE (hu : X.A.units + 200 < cLine) : CallR X (.builtin "sorted") (rB X.K xr B Wx (evB .sorted)) := by
  intro pins s σ H xs us Q I rs hq
  obtain ⟨m, F, env, h, σ', ws, S, r, p⟩ := hq
  match ws, r, p with
  | [w], r, p =>
    obtain ⟨v, rfl, r'⟩ := one_of r
    simp only [evB] at p
    obtain ⟨d, e, p⟩ := liftO_cases p
    rw [Option.map_eq_some_iff] at e
    obtain ⟨ys, e, rfl⟩ := e
    rw [Option.bind_eq_some_iff] at e
    obtain ⟨ds, e, es⟩ := e
    rw [Option.bind_eq_some_iff] at e
    obtain ⟨d0, e, eds⟩ := e
    cases d0 <;> simp only [seqOf, reduceCtorEq] at eds
    case list ds0 =>
      cases eds
      obtain ⟨a, vs, rfl, sq, dd⟩ := (now_of S.hr r' e).list S.hr.sub
      unfold sortP at es
      split at es
      · rename_i ns ei
        cases es
        have ei := intsOf_eq ei
        subst ei
        have im : ∀ ns : List Int, intsOf (ns.map .int) = some ns := fun ns => by
          induction ns with
          | nil => rfl
          | cons n ns ih => simp only [List.map_cons, intsOf, ih]; rfl
        have ev : vs = ns.map V.int := ints_vs dd (im ns)
        subst ev
        refine cr_sortedI pins s σ H _ us Q I rs ⟨a, ns, rfl, sq, fun ms q hp hs hn => ?_⟩
        rw [sortI_eq hp hs]
        exact PostE.newF p S hn (.lst sq_new (dp_ints _))
      · split at es
        · rename_i hc
          cases es
          simp only [Bool.and_eq_true] at hc
          obtain ⟨⟨h1, h2⟩, h3⟩ := hc
          have h3 : PyData.depthAll ds ≤ 150 := of_decide_eq_true h3
          obtain ⟨u, rfl, ru⟩ := vals1 rs
          cases ru
          obtain ⟨its, rv, hl, hz⟩ := I.list sq
          have dd' := dps_mono S.hr.sub _ _ dd
          obtain ⟨as, h4⟩ := Dp.readsAll I ds vs its dd' rv
          have hid : ds.map (id : PyData → PyData) = ds := List.map_id ds
          have hlen := dd.length
          refine PySem.W.sorted_data (enc := (id : PyData → PyData)) (vs := its) hl.isList (each_dp dd rv) (PySem.W.readsAll_each id (by rw [hid]; exact h4)) ?_ (by rw [hid]; exact srtAll_ok h2) (by omega) (fun b hb => ?_) fun out ho he => ?_
          · rw [hid]
            have := alkAll_ok h1
            exact fun d hd d' hd' => this.1 d hd d' hd'
          · have := depth_mem hb
            simp only [id]
            omega
          · obtain ⟨vs2, rv2, dd2⟩ := dp_each he
            obtain ⟨ep, he'⟩ := PyProof.Rows.sortedAll_at s.heap its out.toArray
            have hfree := I.hok.fresh (Nat.le_succ s.heap.objs.size)
            refine ⟨.ref _, upd H (s.heap.objs.size + 1) (.lst vs2), I.laid (t' := s.toks) (fun _ _ => PyProof.Rows.sortedAll_old) (Nat.le_succ _) ⟨?_, out, ep, rv2, he'⟩, rfl, PostE.newF p S hfree (dp_newL S.hr hfree dd2)⟩
            rw [rv2.length, ho]
            omega
        · cases es
    case tuple ds0 =>
      cases eds
      obtain ⟨a, vs, rfl, sq, dd, _⟩ := (now_of S.hr r' e).tuple S.hr.sub
      obtain ⟨u, rfl, ru⟩ := vals1 rs
      cases ru
      obtain ⟨its, rv, hl, hz⟩ := I.tuple sq
      have dd' := dps_mono S.hr.sub _ _ dd
      obtain ⟨as, h4⟩ := Dp.readsAll I ds vs its dd' rv
      have hid : ds.map (id : PyData → PyData) = ds := List.map_id ds
      have hlen := dd.length
      have go : PySem.W.AllAlike ds → PySem.W.Sortable ds → (∀ b ∈ ds, b.depth ≤ 150) → ds.mergeSort (PySem.W.dataLe false id) = ys → wpAny (model X.prog X.w) X.A (call (.builtin "sorted") [.ref a]) (EP X pins σ Q) X.xe s := fun c1 c2 c3 c4 => by
        refine sorted_dataT (enc := (id : PyData → PyData)) (vs := its) hl (each_dp dd rv) (PySem.W.readsAll_each id (by rw [hid]; exact h4)) (by rw [hid]; exact c1) (by rw [hid]; exact c2) (by omega) (fun b hb => ?_) fun out ho he => ?_
        · have := c3 b hb
          simp only [id]
          omega
        · rw [c4] at he
          obtain ⟨vs2, rv2, dd2⟩ := dp_each he
          obtain ⟨ep, he'⟩ := PyProof.Rows.sortedAll_at s.heap its out.toArray
          have hfree := I.hok.fresh (Nat.le_succ s.heap.objs.size)
          refine ⟨.ref _, upd H (s.heap.objs.size + 1) (.lst vs2), I.laid (t' := s.toks) (fun _ _ => PyProof.Rows.sortedAll_old) (Nat.le_succ _) ⟨?_, out, ep, rv2, he'⟩, rfl, PostE.newF p S hfree (dp_newL S.hr hfree dd2)⟩
          rw [rv2.length, ho]
          omega
      unfold sortP at es
      split at es
      · rename_i ns ei
        cases es
        have ei := intsOf_eq ei
        subst ei
        refine go ?_ (.inr fun d hd => ?_) (fun b hb => ?_) ?_
        · intro d hd d' hd'
          obtain ⟨i, _, rfl⟩ := List.mem_map.mp hd
          obtain ⟨j, _, rfl⟩ := List.mem_map.mp hd'
          rfl
        · obtain ⟨i, _, rfl⟩ := List.mem_map.mp hd
          exact ⟨(fun z => PyData.noConfusion z), (fun xs z => PyData.noConfusion z)⟩
        · obtain ⟨i, _, rfl⟩ := List.mem_map.mp hb
          simp [PyData.depth]
        · have e1 := PySem.W.dataLe_int (fun i : Int => i)
          rw [show sortI ns = ns.mergeSort (fun a b => decide (a ≤ b)) from rfl, ← e1]
          exact (List.map_mergeSort (f := PyData.int) (r := PySem.W.dataLe false fun i : Int => .int i) (s := PySem.W.dataLe false id) fun _ _ _ _ => rfl).symm
      · split at es
        · rename_i hc
          cases es
          simp only [Bool.and_eq_true] at hc
          obtain ⟨⟨h1, h2⟩, h3⟩ := hc
          have h3 : PyData.depthAll ds ≤ 150 := of_decide_eq_true h3
          have := alkAll_ok h1
          exact go (fun d hd d' hd' => this.1 d hd d' hd') (srtAll_ok h2) (fun b hb => by have := depth_mem hb; omega) rfl
        · cases es
  | [], _, p => exact p.elim
  | _ :: _ :: _, _, p => exact p.elim
/-- l.index(x) -/
theorem mt_idx (hu : X.A.units + 200 < cLine) : MtR X "list.index" (fun x xs H Q => ∃ m F env h σ w ws, SR X.K B m F env h σ H ∧ WR X.K m F x w ∧ WRs X.K m F xs ws ∧ PostE X.K xr B Wx m F env σ H (evM .index w ws h) Q) := by
  intro pins s σ H x xs v us Q I rx rxs hq
  obtain ⟨m, F, env, h, σ', w, ws, S, r, rs, p⟩ := hq
  match ws, rs, p with
  | [.d z], rs, p =>
    simp only [evM] at p
    split at p
    · rename_i ys e
      split at p
      · rename_i hd
        split at p
        · rename_i j ej
          obtain ⟨y, rfl, ry⟩ := one_of rs
          have dl := toDD_dp S.hr r e
          have ry1 : Dp X.K F y z := ry
          have ry' : Dp X.K H y z := dp_mono S.hr.sub _ _ ry1
          obtain ⟨uy, rfl, ruy⟩ := vals1 rxs
          obtain ⟨a, vs, rfl, sq, dd⟩ : ∃ a vs, x = .ref a ∧ SqL X.K H a vs ∧ DpAll X.K H vs ys := by
            cases dl with
            | lst h1 h2 => exact ⟨_, _, rfl, h1, h2⟩
          · cases rx
            obtain ⟨its, rv, hl, hz⟩ := I.list sq
            obtain ⟨as, h4⟩ := Dp.readsAll I ys _ its dd rv
            obtain ⟨bs, h5⟩ := Dp.reads I z y uy ry' ruy
            have hdz := of_decide_eq_true hd
            obtain ⟨⟨cls, odd, data, sl⟩, n, ho, hc, _, hd'⟩ := hl
            simp only at hc hd'
            subst hc hd'
            have rs2 : ReadsAll s.heap its.toArray.toList ys as := by simpa using h4
            obtain ⟨hj, hit, hno⟩ := SeqAt.hit_at rs2 (dps_plain _ _ dd) (d := z) (j := j) ej
            have szE := sizeLine_eq
            have hjl : j < its.length := by simpa using hj
            have hlv := rv.length
            refine call_meets PySem.F.slot_list_index ⟨_, ho, rfl⟩ PySem.F.entry_list_index (PySem.F.args_list_index_2 _ _) (SeqAt.list_indexAt a its.toArray n odd sl uy (fun u => PyData.eqv (SeqAt.readOf s.heap u) z) j hj (by omega) hit hno)
              ⟨ho, SeqAt.items_plain rs2 h5 (dps_plain _ _ dd) (dp_plain _ _ ry') (by omega), ?_⟩
            exact ⟨.int _, H, I.tok _, ⟨_, rfl⟩, PostE.now p S (.int _)⟩
        · exact p.elim
      · exact p.elim
    · exact p.elim
  | [.l _], _, p => exact p.elim
  | [], _, p => exact p.elim
  | _ :: _ :: _, _, p => exact (show False by simpa [evM, PostG] using p).elim
theorem dctOf_ok {h : Hq} {w : W} {kvs : List (PyData × PyData)} (e : dctOf h w = some kvs) : ∃ n, w = .l n ∧ h[n]? = some (.dct kvs) := by
  unfold dctOf at e
  split at e
  · split at e
    · rename_i eo; cases e; exact ⟨_, rfl, eo⟩
    · cases e
  · cases e
/-- d.get(k, v) -/
theorem mt_get (hw : X.w = Wd.w) (hu : X.A.units + 200 < cLine) : MtR X "dict.get" (fun x xs H Q => ∃ m F env h σ w ws, SR X.K B m F env h σ H ∧ WR X.K m F x w ∧ WRs X.K m F xs ws ∧ PostE X.K xr B Wx m F env σ H (evM .get w ws h) Q) := by
  intro pins s σ H x xs v us Q I rx rxs hq
  obtain ⟨m, F, env, h, σ', w, ws, S, r, rs, p⟩ := hq
  match ws, rs, p with
  | [.d k, dv], rs, p =>
    simp only [evM] at p
    split at p
    · rename_i kvs ed
      have p2 := p
      obtain ⟨n, rfl, eo⟩ := dctOf_ok ed
      obtain ⟨a, em, rfl⟩ := r
      cases rx
      obtain ⟨fa, es, eH, dk, nd, hz, hl⟩ := S.hr.ob n _ a eo em
      split at p2
      · rename_i hk
        obtain ⟨ks, nk, rfl, ek, hd⟩ := isKey_ok hk
        obtain ⟨y, y2, rfl, ry, ry2⟩ := two_of rs
        obtain ⟨u1, u2, rfl, ru1, ru2⟩ := vals2 rxs
        have ry : Dp X.K F y (.tuple ks) := ry
        have ry' := ry
        cases ry with
        | tup h1 h2 =>
          cases ru1
          have dd := dk_of hw I S.hr.sub eH dk nd
          have g := dk.get ek
          refine call_meetsIn PySem.F.slot_dict_get dd.typeIs PySem.F.entry_dict_get (PySem.F.args_dict_get_3 _ _ _) (meetsH_dict_get_default (nestedKind X.prog X.w) a _ hz u2) ⟨dk_room hu, nk, es, dk_is I S.hr.sub ek hd ry', dd, ?_⟩
          cases e : dget kvs (.tuple ks) with
          | some z =>
            rw [e] at g p2
            obtain ⟨pv, z', e1, rz, dz⟩ := g
            rw [e1]
            exact ⟨z', H, I.tok _, rz, PostE.now p2 S dz⟩
          | none =>
            rw [e] at g p2
            rw [g]
            exact ⟨y2, H, I.tok _, ru2, PostE.now p2 S ry2⟩
      · exact p2.elim
    · exact p.elim
  | [.l _, _], _, p => exact (show False by simpa [evM, PostG] using p).elim
  | [], _, p => exact p.elim
  | [.d _], _, p => exact (show False by simpa [evM, PostG] using p).elim
  | [.l _], _, p => exact (show False by simpa [evM, PostG] using p).elim
  | _ :: _ :: _ :: _, _, p => exact (show False by simpa [evM, PostG] using p).elim
end
end Ev

/-! EvJ: calls, comprehensions; every expression (sndE). -/
namespace Ev
open PySem PySem.Spec L2
variable [Wd]
section
variable {M : ME} {xr : XRel} {T : List FD} {n b : Nat} {B : BB}

section
variable {X : Cx} {o e : Expr} {es : List Expr} {to : TE} {t : TA} {name : Str} {apos cpos pos : Pos} {T id : String} {r : V → List V → Hp → VK → Prop}
/-- a dict of this language -/
def isDct (x : V) (H : Hp) : Prop := ∃ a es, x = .ref a ∧ H a = some (dctO a es)
/-- d.m(e, ..) -/
theorem pe_dctm (pa : PySem.PlainAttrs "dict") (slot : PySem.Slot "dict" name id) (hty : typeOf (.builtin id) = pure (.type "method_descriptor")) (hm : MtR X id r) (ho : PE X o to) (ha : PA X (e :: es) t)
    (base : attributeBase o name X.env (eval o X.env) = eval o X.env)
    (few : ((backTo cpos (starEach (e :: es) X.env)).all (fun x => !x.1) && (backToKw cpos (keywordEach [] X.env)).all (fun x => x.1.isSome) && decide ((e :: es).length + ([] : List Keyword).length + (if ([] : List Keyword).isEmpty then 0 else 1) < 30)) = true)
    (line : (apos.endLine == cpos.line) = true) (st : starEach (e :: es) X.env = (false, eval e X.env) :: starEach es X.env) (ns : (backTo cpos (starEach es X.env)).any (·.1) = false) :
    PE X (.Call (.Attribute o name apos) (e :: es) [] cpos) (fun σ H Q => to σ H fun x H1 => isDct x H1 ∧ t σ H1 fun xs H2 => r x xs H2 Q) := by
  refine ⟨fun pins s σ H Q I q => ?_⟩
  refine wpAny_Call_method_late base few line rfl (thn (ho.run pins s σ H _ I q) fun v s1 ⟨x, H1, I1, r1, ⟨a, ds, ex, eH⟩, q1⟩ => ?_)
  subst ex
  cases r1
  have ok : ObjOk X.prog X.w H1 s1.heap a (dctO a ds) := I1.hok a _ eH
  obtain ⟨⟨ob, es', ep, h1, h2, h3, h4⟩, _, _⟩ := ok
  refine ⟨"dict", id, pa, slot, hty, ⟨ob, h1, h2.1⟩, (fun b q => by cases q; exact ⟨ob, h1, h2.2.1⟩), ?_⟩
  have hA := ha.run cpos pins s1 σ H1 _ I1 q1
  rw [st] at hA ⊢
  refine Calls.callWith_builtin (by show (false || (backTo cpos (starEach es X.env)).any (·.1)) = false; rw [ns] <;> rfl) (Calls.evalArgs_plain ?_)
  refine thn hA fun us s2 ⟨vs, H2, I2, r2, q2⟩ => ?_
  exact hm pins s2 σ H2 (.ref a) vs _ us Q I2 rfl r2 q2
/-- {} -/
theorem pe_dnewG (hw : X.w = Wd.w) : PE X (.Dict [] [] pos) (fun _ H Q => ∀ p, H p = none → (p == sysModules) = false → Q (.ref p) (upd H p (dctO p []))) := ⟨fun pins s σ H Q I q => by
  have big := I.big
  have ns : (s.heap.objs.size == sysModules) = false := beq_eq_false_iff_ne.mpr fun z => by rw [z] at big; exact absurd big (Nat.lt_irrefl _)
  refine wpAny_Dict_empty ⟨.ref s.heap.objs.size, _, I.laid (a := s.heap.objs.size) (o := dctO s.heap.objs.size []) (t' := s.toks) (fun _ _ q => Heap.get?_push_of_some _ q) (Nat.le_refl _) ?_, rfl, q _ (I.hok.fresh (Nat.le_refl _)) ns⟩
  exact dk_ok hw (Heap.DictOfH.new _)⟩
end
theorem isLst_ok {h : Hq} {w : W} (e : isLst h w = true) : ∃ ds, toDD h w = some (.list ds) := by
  unfold isLst at e
  split at e
  · rename_i q; exact ⟨_, q⟩
  · cases e
theorem bindA {K : PySem.W.Frag} {Wx : WX} {ra : Vars → Hq → R (List W)} {g : List W → Hq → R W} {σ : L2.St} {H : Hp} {Q : VK} {G : List V → Hp → Prop} (p : tE K xr B Wx (fun env h => (ra env h).bind g) σ H Q)
    (i : ∀ m F env h H ws vs, SR K B m F env h σ H → WRs K m F vs ws → PostE K xr B Wx m F env σ H (g ws h) Q → G vs H) : tA K xr B Wx ra σ H G := by
  obtain ⟨m, F, env, h, S, p⟩ := p
  exact ⟨m, F, env, h, S, p.bind.mono fun ws h1 m1 F1 H1 x1 S1 p vs rv => i m1 F1 env h1 H1 ws vs S1 rv p⟩

section
variable {X : Cx} {Wx : WX}
theorem ints_now {m : List Addr} {F H : Hp} {h : Hq} {w : W} {v : V} {ns : List Int} (s : HR X.K B.c m F h H) (r : WR X.K m F v w) (e : (toD h w).bind listInts = some ns) : ∃ a, v = .ref a ∧ SqL X.K H a (ns.map V.int) := by
  rw [Option.bind_eq_some_iff] at e
  obtain ⟨d, e1, e2⟩ := e
  cases d <;> simp only [listInts, reduceCtorEq] at e2
  obtain ⟨a, vs, rfl, sq, dd⟩ := (now_of s r e1).list s.sub
  rw [ints_vs dd e2] at sq
  exact ⟨a, rfl, sq⟩
theorem cr_sumE (hc : X.calm = true) : CallR X (.builtin "sum") (rB X.K xr B Wx (evB .sum)) := by
  intro pins s σ H xs us Q I rs hq
  obtain ⟨m, F, env, h, σ', ws, S, r, p⟩ := hq
  match ws, r, p with
  | [w], r, p =>
    obtain ⟨v, rfl, r'⟩ := one_of r
    simp only [evB] at p
    obtain ⟨d, e, p⟩ := liftO_cases p
    rw [Option.map_eq_some_iff] at e
    obtain ⟨ns, e, rfl⟩ := e
    obtain ⟨a, rfl, sq⟩ := ints_now S.hr r' e
    exact cr_sum hc pins s σ H _ us Q I rs ⟨a, ns, rfl, sq, PostE.now p S (.int _)⟩
  | [], _, p => exact p.elim
  | _ :: _ :: _, _, p => exact p.elim
theorem bools_vs {F : Hp} : ∀ {ds : List PyData} {vs : List V} {ns : List Bool}, DpAll X.K F vs ds → boolsOf ds = some ns → vs = ns.map V.bl
  | [], _, _, h, e => by cases h; simp [boolsOf] at e; subst e; rfl
  | d :: ds, _, _, h, e => by
    cases h with
    | cons h1 h2 =>
      cases d <;> simp only [boolsOf, reduceCtorEq] at e
      rw [Option.map_eq_some_iff] at e
      obtain ⟨ns, e, rfl⟩ := e
      cases h1
      rw [bools_vs h2 e]
      rfl
theorem bools_now {m : List Addr} {F H : Hp} {h : Hq} {w : W} {v : V} {ns : List Bool} (s : HR X.K B.c m F h H) (r : WR X.K m F v w) (e : (toD h w).bind listBools = some ns) : ∃ a, v = .ref a ∧ SqL X.K H a (ns.map V.bl) := by
  rw [Option.bind_eq_some_iff] at e
  obtain ⟨d, e1, e2⟩ := e
  cases d <;> simp only [listBools, reduceCtorEq] at e2
  obtain ⟨a, vs, rfl, sq, dd⟩ := (now_of s r e1).list s.sub
  rw [bools_vs dd e2] at sq
  exact ⟨a, rfl, sq⟩
theorem cr_allE (hc : X.calm = true) : CallR X (.builtin "all") (rB X.K xr B Wx (evB .all)) := by
  intro pins s σ H xs us Q I rs hq
  obtain ⟨m, F, env, h, σ', ws, S, r, p⟩ := hq
  match ws, r, p with
  | [w], r, p =>
    obtain ⟨v, rfl, r'⟩ := one_of r
    simp only [evB] at p
    obtain ⟨d, e, p⟩ := liftO_cases p
    rw [Option.map_eq_some_iff] at e
    obtain ⟨ns, e, rfl⟩ := e
    obtain ⟨a, rfl, sq⟩ := bools_now S.hr r' e
    exact cr_all hc pins s σ H _ us Q I rs ⟨a, ns, rfl, sq, PostE.now p S (.bl _)⟩
  | [], _, p => exact p.elim
  | _ :: _ :: _, _, p => exact p.elim
theorem cr_anyE (hc : X.calm = true) : CallR X (.builtin "any") (rB X.K xr B Wx (evB .any)) := by
  intro pins s σ H xs us Q I rs hq
  obtain ⟨m, F, env, h, σ', ws, S, r, p⟩ := hq
  match ws, r, p with
  | [w], r, p =>
    obtain ⟨v, rfl, r'⟩ := one_of r
    simp only [evB] at p
    obtain ⟨d, e, p⟩ := liftO_cases p
    rw [Option.map_eq_some_iff] at e
    obtain ⟨ns, e, rfl⟩ := e
    obtain ⟨a, rfl, sq⟩ := bools_now S.hr r' e
    exact cr_any hc pins s σ H _ us Q I rs ⟨a, ns, rfl, sq, PostE.now p S (.bl _)⟩
  | [], _, p => exact p.elim
  | _ :: _ :: _, _, p => exact p.elim
end
theorem snd_blt {f : Bt} {es : Es} (hes : SndEs M xr T n b B es) : SndE M xr T n b B (.blt f es) := by
  intro X Wx sc p k h
  cases p <;> try (simp only [matE, Bool.false_eq_true] at h; done)
  rename_i pf ps kw pos
  cases pf <;> try (simp [matE] at h; done)
  rename_i x p2
  cases ps <;> try (simp [matE] at h; done)
  rename_i p ps
  cases kw <;> try (simp [matE] at h; done)
  simp only [matE, Bool.and_eq_true, decide_eq_true_eq] at h
  obtain ⟨⟨⟨rfl, h1⟩, h2⟩, hcm⟩ := h
  have cm : f.free = false → X.calm = true := fun z => k.clm (by rw [z, Bool.or_false] at hcm; exact hcm)
  have hg := gl_of k.hs h1
  have hm := bt_gl (f := f) k
  have ha := hes X Wx sc _ k h2
  have hs := star1 (env := X.env) (ps := ps) (star_head h2)
  have hpl : (backTo pos (starEach ps X.env)).any (·.1) = false := by
    cases es with
    | nil => simp [matEs] at h2
    | cons e es => simp only [matEs, Bool.and_eq_true] at h2; exact (stars_of h2.2 pos).1
  have rd : ∀ {σ H Q}, tE X.K xr B Wx (evE b (callN T n) (.blt f es)) σ H Q → tCB (rB X.K xr B Wx (evB f)) (tA X.K xr B Wx (evEs b (callN T n) es)) σ H Q := fun {σ H Q} q => by
    simp only [tE, evE] at q
    exact bindA q fun m F env hq H ws vs S rv q => ⟨m, F, env, hq, σ, ws, S, rv, q⟩
  have bad : (∀ ws h, evB f ws h = .bad) → ∀ {σ H Q}, tE X.K xr B Wx (evE b (callN T n) (.blt f es)) σ H Q → tCB (fun _ _ _ => False) (tA X.K xr B Wx (evEs b (callN T n) es)) σ H Q := fun hb {σ H Q} q => by
    simp only [tE, evE] at q
    exact bindA q fun m F env hq H ws vs S rv q => by rw [hb] at q; exact q.elim
  have fB : ∀ {id : String} {v : Value}, (∀ ws h, evB f ws h = .bad) → bootBuiltins f.nm = some (.builtin id) → f.nm ≠ "__name__" → (f.nm == ("__debug__" : Str)) = false → SE X xr B Wx (evE b (callN T n) (.blt f es)) (.Call (.Name f.nm p2) (p :: ps) [] pos) := fun {id v} hb hv hn hd =>
    SE.of_plain ((pe_callB (id := id) (r := fun _ _ _ => False) (fun _ _ _ _ _ _ _ _ _ z => z.elim) hg hm hv ha hn hd hs hpl).weak fun σ H Q q => bad hb q) (fun _ => rfl) rfl
  have fT : ∀ {id : String}, (∀ ws h, evB f ws h = .bad) → bootBuiltins f.nm = some (.type id) → f.nm ≠ "__name__" → (f.nm == ("__debug__" : Str)) = false → SE X xr B Wx (evE b (callN T n) (.blt f es)) (.Call (.Name f.nm p2) (p :: ps) [] pos) := fun {id} hb hv hn hd =>
    SE.of_plain ((pe_callTy (T := id) (r := fun _ _ _ => False) (fun _ _ _ _ _ _ _ _ _ z => z.elim) hg hm hv ha hn hd hs hpl).weak fun σ H Q q => bad hb q) (fun _ => rfl) rfl
  cases f
  case len => exact SE.of_plain ((pe_callB cr_len hg hm (by decide +kernel) ha (by decide +kernel) (by decide +kernel) hs hpl).weak fun σ H Q q => rd q) (fun _ => rfl) rfl
  case tuple => exact SE.of_plain ((pe_callTy cr_tuple hg hm (by decide +kernel) ha (by decide +kernel) (by decide +kernel) hs hpl).weak fun σ H Q q => rd q) (fun _ => rfl) rfl
  case list => exact SE.of_plain ((pe_callTy cr_list hg hm (by decide +kernel) ha (by decide +kernel) (by decide +kernel) hs hpl).weak fun σ H Q q => rd q) (fun _ => rfl) rfl
  case int => exact SE.of_plain ((pe_callTy cr_int hg hm (by decide +kernel) ha (by decide +kernel) (by decide +kernel) hs hpl).weak fun σ H Q q => rd q) (fun _ => rfl) rfl
  case sum => exact SE.of_plain ((pe_callB (cr_sumE (cm rfl)) hg hm (by decide +kernel) ha (by decide +kernel) (by decide +kernel) hs hpl).weak fun σ H Q q => rd q) (fun _ => rfl) rfl
  case sorted => exact SE.of_plain ((pe_callB (cr_sortedE k.hu) hg hm (by decide +kernel) ha (by decide +kernel) (by decide +kernel) hs hpl).weak fun σ H Q q => rd q) (fun _ => rfl) rfl
  case str => exact fT (id := "str") (by intro ws h; rcases ws with _ | ⟨w, _ | ⟨w2, ws⟩⟩ <;> simp [evB]) (by decide +kernel) (by decide +kernel) (by decide +kernel)
  case max => exact SE.of_plain ((pe_callB (cr_maxE (cm rfl) k.hu) hg hm (by decide +kernel) ha (by decide +kernel) (by decide +kernel) hs hpl).weak fun σ H Q q => rd q) (fun _ => rfl) rfl
  case min => exact SE.of_plain ((pe_callB (cr_minE (cm rfl) k.hu) hg hm (by decide +kernel) ha (by decide +kernel) (by decide +kernel) hs hpl).weak fun σ H Q q => rd q) (fun _ => rfl) rfl
  case all => exact SE.of_plain ((pe_callB (cr_allE (cm rfl)) hg hm (by decide +kernel) ha (by decide +kernel) (by decide +kernel) hs hpl).weak fun σ H Q q => rd q) (fun _ => rfl) rfl
  case any => exact SE.of_plain ((pe_callB (cr_anyE (cm rfl)) hg hm (by decide +kernel) ha (by decide +kernel) (by decide +kernel) hs hpl).weak fun σ H Q q => rd q) (fun _ => rfl) rfl
  case repr => exact SE.of_plain ((pe_callB (cr_repr k.gd k.hu) hg hm (by decide +kernel) ha (by decide +kernel) (by decide +kernel) hs hpl).weak fun σ H Q q => rd q) (fun _ => rfl) rfl
  case max2 => exact fB (id := "max") (v := .none) (by intro ws h; rcases ws with _ | ⟨w, _ | ⟨w2, ws⟩⟩ <;> simp [evB]) (by decide +kernel) (by decide +kernel) (by decide +kernel)
  case min2 => exact fB (id := "min") (v := .none) (by intro ws h; rcases ws with _ | ⟨w, _ | ⟨w2, ws⟩⟩ <;> simp [evB]) (by decide +kernel) (by decide +kernel) (by decide +kernel)
theorem snd_sset {x : E} (hx : SndE M xr T n b B x) : SndE M xr T n b B (.sset x) := by
  intro X Wx sc p k h
  cases p <;> try (simp only [matE, Bool.false_eq_true] at h; done)
  rename_i pf ps kw pos
  cases pf <;> try (simp [matE] at h; done)
  rename_i n1 pos3
  rcases ps with _ | ⟨p, _ | ⟨p2, ps⟩⟩ <;> try (simp [matE] at h; done)
  cases p <;> try (simp [matE] at h; done)
  rename_i pf ps2 kw2 pos2
  cases pf <;> try (simp [matE] at h; done)
  rename_i n2 pos4
  rcases ps2 with _ | ⟨p, _ | ⟨p2, ps⟩⟩ <;> try (simp [matE] at h; done)
  cases kw <;> try (simp [matE] at h; done)
  cases kw2 <;> try (simp [matE] at h; done)
  simp only [matE, Bool.and_eq_true, decide_eq_true_eq] at h
  obtain ⟨⟨⟨⟨⟨⟨hcm, rfl⟩, rfl⟩, g1⟩, g2⟩, hn⟩, hm⟩ := h
  have a := (hx X Wx sc p k hm).pe
  have inner := pe_callTy (p := pos4) (pos := pos2) cr_setL (gl_of k.hs g2) (k.bl _ (by decide +kernel)) (by decide +kernel) (pa_cons a pa_nil (star1 hn)) (by decide +kernel) (by decide +kernel) (star1 hn) rfl
  refine SE.of_plain ((pe_callB (p := pos3) (pos := pos) (cr_sortedSet (k.clm hcm)) (gl_of k.hs g1) (k.bl _ (by decide +kernel)) (by decide +kernel) (pa_cons inner pa_nil rfl) (by decide +kernel) (by decide +kernel) rfl rfl).weak fun σ H Q q => ?_) (fun _ => rfl) rfl
  simp only [tE, evE] at q
  refine bind1 (ra := evE b (callN T n) x) q fun m F env hq H w v S r q => ?_
  split at q
  · rename_i ns e
    split at q
    · rename_i hl
      obtain ⟨a, rfl, sq⟩ := ints_now S.hr r e
      refine ⟨k.clm hcm, a, ns, rfl, sq, by omega, fun c p hc hp => ?_⟩
      have fp := S.hr.freeF hp
      have mp := S.hr.freeM hp
      refine ⟨p, _, c, rfl, upd_same, by omega, fun ms q2 asc mem len hn => ?_⟩
      have e2 : ms = sortU ns := asc_eq asc (asc_sortU ns) fun j => by rw [mem j, mem_sortU]; simp
      rw [e2]
      have hpq : q2 ≠ p := fun z => by rw [z, upd_same] at hn; cases hn
      have hq0 : H q2 = none := by rw [upd_ne hpq] at hn; exact hn
      have S1 := S.other (u := SetO X.w p (fun j => decide (j ∈ ns)) c) fp mp
      obtain ⟨S2, x2⟩ := S1.newF (u := .lst ((sortU ns).map V.int)) hn
      refine q _ _ _ ⟨.refl _, x2.sub, fun b o eb hb => ?_, fun _ a b => absurd a b, fun b hb hf hh => ?_⟩ S2 _ (.lst sq_new (dp_ints _))
      · rw [upd_ne (ne_of_none eb hq0), upd_ne (ne_of_none eb hp)]; exact eb
      · have : b ≠ q2 := fun z => hh (z ▸ hq0)
        rw [upd_ne this]; exact hf
    · exact q.elim
  · exact q.elim
theorem snd_mth {f : Mt} {o : E} {es : Es} (ho : SndE M xr T n b B o) (hes : SndEs M xr T n b B es) : SndE M xr T n b B (.mth f o es) := by
  intro X Wx sc p k h
  cases p <;> try (simp only [matE, Bool.false_eq_true] at h; done)
  rename_i pf ps kw pos
  cases pf <;> try (simp [matE] at h; done)
  rename_i po x ap
  cases ps <;> try (simp [matE] at h; done)
  rename_i p ps
  cases kw <;> try (simp [matE] at h; done)
  simp only [matE, Bool.and_eq_true, decide_eq_true_eq] at h
  obtain ⟨⟨⟨⟨⟨⟨hf, rfl⟩, h0⟩, hl⟩, hlen⟩, h1⟩, h2⟩ := h
  have a := (ho X Wx sc po k h1).pe
  have ha := hes X Wx sc _ k h2
  have hs := star1 (env := X.env) (ps := ps) (star_head h2)
  have sts := stars_of (env := X.env) h2 pos
  have hpl : (backTo pos (starEach ps X.env)).any (·.1) = false := by
    cases es with
    | nil => simp [matEs] at h2
    | cons e es => simp only [matEs, Bool.and_eq_true] at h2; exact (stars_of h2.2 pos).1
  have hbase : attributeBase po f.nm X.env (eval po X.env) = eval po X.env := by
    unfold attributeBase
    cases po <;> try rfl
    rename_i g as kws ps
    cases g <;> try rfl
    cases as <;> try rfl
    cases kws <;> try rfl
    simp [notCall0] at h0
  have hfew : ((backTo pos (starEach (p :: ps) X.env)).all (fun x => !x.1) && (backToKw pos (keywordEach [] X.env)).all (fun x => x.1.isSome) && decide ((p :: ps).length + ([] : List Keyword).length + (if ([] : List Keyword).isEmpty then 0 else 1) < 30)) = true := by
    rw [sts.2, Bool.true_and, Bool.and_eq_true]
    exact ⟨rfl, decide_eq_true (by simp; omega)⟩
  have rd : ∀ {σ H Q} {P : V → Hp → Prop}, tE X.K xr B Wx (evE b (callN T n) (.mth f o es)) σ H Q → (∀ m F env hq H w v, SR X.K B m F env hq σ H → WR X.K m F v w → recv f hq w = true → P v H) →
      tE X.K xr B Wx (evE b (callN T n) o) σ H fun v H1 => P v H1 ∧ tA X.K xr B Wx (evEs b (callN T n) es) σ H1 fun vs H2 => ∃ m F env h σ w ws, SR X.K B m F env h σ H2 ∧ WR X.K m F v w ∧ WRs X.K m F vs ws ∧ PostE X.K xr B Wx m F env σ H2 (evM f w ws h) Q := fun {σ H Q P} q hP => by
    obtain ⟨m, F, env, hq, S, q⟩ := q
    simp only [evE] at q
    refine ⟨m, F, env, hq, S, q.bind.mono fun w h1 m1 F1 H1 x1 S1 q v rv => ?_⟩
    split at q
    · rename_i hr
      refine ⟨hP _ _ _ _ _ _ _ S1 rv hr, m1, F1, env, h1, S1, q.bind.mono fun ws h2 m2 F2 H2 x2 S2 q us ru => ?_⟩
      exact ⟨m2, F2, env, h2, σ, w, ws, S2, wr_mono x2.ml x2.sub rv, ru, q⟩
    · exact q.elim
  have lst : ∀ {m : List Addr} {F : Hp} {env : Vars} {hq : Hq} {H : Hp} {σ : L2.St} {w : W} {v : V} {ds : List PyData}, SR X.K B m F env hq σ H → WR X.K m F v w → toDD hq w = some (.list ds) → ∃ a vs, v = .ref a ∧ SqL X.K H a vs := fun {m F env hq H σ w v ds} S rv e => by
    have d := toDD_dp S.hr rv e
    cases d with
    | lst h1 h2 => exact ⟨_, _, rfl, h1⟩
  cases f
  case count =>
    refine SE.of_plain ((pe_bm PySem.F.plainAttrs_list PySem.F.slot_list_count PySem.F.type_list_count (mt_cnt (xr := xr) (B := B) (Wx := Wx) k.hu) a ha hbase hfew hl hs hpl).weak fun σ H Q q => rd q fun m F env hq H w v S rv hr => ?_) (fun _ => rfl) rfl
    obtain ⟨ds, e⟩ := isLst_ok hr
    obtain ⟨c, vs, rfl, sq⟩ := lst S rv e
    exact .inl ⟨rfl, vs, sq⟩
  case index =>
    refine SE.of_plain ((pe_bm PySem.F.plainAttrs_list PySem.F.slot_list_index PySem.F.type_list_index (mt_idx (xr := xr) (B := B) (Wx := Wx) k.hu) a ha hbase hfew hl hs hpl).weak fun σ H Q q => rd q fun m F env hq H w v S rv hr => ?_) (fun _ => rfl) rfl
    obtain ⟨ds, e⟩ := isLst_ok hr
    obtain ⟨c, vs, rfl, sq⟩ := lst S rv e
    exact .inl ⟨rfl, vs, sq⟩
  case get =>
    refine SE.of_plain ((pe_dctm PySem.F.plainAttrs_dict PySem.F.slot_dict_get PySem.F.type_dict_get (mt_get (xr := xr) (B := B) (Wx := Wx) k.hw k.hu) a ha hbase hfew hl hs hpl).weak fun σ H Q q => rd q fun m F env hq H w v S rv hr => ?_) (fun _ => rfl) rfl
    obtain ⟨kvs, ed⟩ : ∃ kvs, dctOf hq w = some kvs := Option.isSome_iff_exists.mp hr
    obtain ⟨n, rfl, eo⟩ := dctOf_ok ed
    obtain ⟨a, em, rfl⟩ := rv
    obtain ⟨fa, es, eH, dk, nd, hz, hl⟩ := S.hr.ob n _ a eo em
    exact ⟨a, es, rfl, eH⟩
  case pop => cases hf

theorem snd_call {f : Nat} {es : Es} (hb : b ∈ B.c) (hB : ∀ c ∈ B.c, c ≤ b) (hes : SndEs M xr T n b B es) : SndE M xr T n b B (.call f es) := by
  intro X Wx sc p k h
  cases p <;> try (simp only [matE, Bool.false_eq_true] at h; done)
  rename_i pf ps kw pos
  cases pf <;> try (simp [matE] at h; done)
  rename_i x p2
  cases ps <;> try (simp [matE] at h; done)
  rename_i p ps
  cases kw <;> try (simp [matE] at h; done)
  simp only [matE, Bool.and_eq_true] at h
  obtain ⟨⟨⟨⟨hcm, h0⟩, h1⟩, h2⟩, h3⟩ := h
  obtain ⟨a, fd, pr, hm, hk, hbd, hF⟩ := k.fns f x (of_decide_eq_true h0)
  have ha := hes X Wx sc _ k h3
  have hs := star1 (env := X.env) (ps := ps) (star_head h3)
  have hpl : (backTo pos (starEach ps X.env)).any (·.1) = false := by
    cases es with
    | nil => simp [matEs] at h3
    | cons e es => simp only [matEs, Bool.and_eq_true] at h3; exact (stars_of h3.2 pos).1
  refine SE.of_plain ((pe_callG (p := p2) (pos := pos) hF k.gd (k.room hcm) (gl_of k.hs h1) hm hk hbd (fun σ => passAt k.tk σ) ha (plainN_of h2).1 hs hpl).weak fun σ H Q q => ?_) (fun _ => rfl) rfl
  simp only [tE, evE] at q
  refine bindA q fun m F env hq H ws vs S rv q => ?_
  cases e : callN T n b f ws hq with
  | bad => rw [e] at q; exact q.elim
  | ok w h' =>
    rw [e] at q
    have hfd : ∃ fd, T[f]? = some fd ∧ ws.length = fd.np := by
      cases n with
      | zero => simp [callN] at e
      | succ n =>
        simp only [callN] at e
        split at e
        · rename_i fd hfd
          refine ⟨fd, hfd, ?_⟩
          unfold runF at e
          split at e
          · assumption
          · cases e
        · cases e
    obtain ⟨fd, hfd, hl⟩ := hfd
    refine ⟨fd, hfd, by rw [rv.length]; exact hl, B.c, b, m, F, ws, hq, hb, hB, S.hr, rv, ?_⟩
    rw [e]
    exact fun v m' F' H' x r rw' => q m' F' H' x (S.ext r x) v rw'
  | ex c ds h' =>
    rw [e] at q
    have hfd : ∃ fd, T[f]? = some fd ∧ ws.length = fd.np := by
      cases n with
      | zero => simp [callN] at e
      | succ n =>
        simp only [callN] at e
        split at e
        · rename_i fd hfd
          refine ⟨fd, hfd, ?_⟩
          unfold runF at e
          split at e
          · assumption
          · cases e
        · cases e
    obtain ⟨fd, hfd, hl⟩ := hfd
    refine ⟨fd, hfd, by rw [rv.length]; exact hl, B.c, b, m, F, ws, hq, hb, hB, S.hr, rv, ?_⟩
    rw [e]
    exact fun m' F' H' cls dx x r y => q m' F' H' cls dx x r y
theorem snd_call0 {f : Nat} (hb : b ∈ B.c) (hB : ∀ c ∈ B.c, c ≤ b) : SndE M xr T n b B (.call0 f) := by
  intro X Wx sc p k h
  cases p <;> try (simp only [matE, Bool.false_eq_true] at h; done)
  rename_i pf ps kw pos
  cases pf <;> try (simp [matE] at h; done)
  rename_i x p2
  cases ps <;> try (simp [matE] at h; done)
  cases kw <;> try (simp [matE] at h; done)
  simp only [matE, Bool.and_eq_true] at h
  obtain ⟨⟨⟨hcm, h0⟩, h1⟩, h2⟩ := h
  obtain ⟨a, fd, pr, hm, hk, hbd, hF⟩ := k.fns f x (of_decide_eq_true h0)
  refine SE.of_plain ((pe_call0G (p := p2) (pos := pos) hF k.gd (k.room hcm) (gl_of k.hs h1) hm hk hbd (fun σ => passAt k.tk σ) (plainN_of h2).1).weak fun σ H Q q => ?_) (fun _ => rfl) rfl
  obtain ⟨m, F, env, hq, S, q⟩ := q
  simp only [evE] at q
  have hfd : callN T n b f [] hq ≠ .bad → ∃ fd, T[f]? = some fd ∧ ([] : List W).length = fd.np := fun hz => by
    cases n with
    | zero => exact absurd (by simp [callN]) hz
    | succ n =>
      simp only [callN] at hz
      split at hz
      · rename_i fd hfd
        refine ⟨fd, hfd, ?_⟩
        unfold runF at hz
        split at hz
        · assumption
        · exact absurd rfl hz
      · exact absurd rfl hz
  cases e : callN T n b f [] hq with
  | bad => rw [e] at q; exact q.elim
  | ok w h' =>
    rw [e] at q
    obtain ⟨fd, hfd, hl⟩ := hfd (by rw [e]; exact fun z => nomatch z)
    refine ⟨fd, hfd, hl, B.c, b, m, F, [], hq, hb, hB, S.hr, .nil, ?_⟩
    rw [e]
    exact fun v m' F' H' x r rw' => q m' F' H' x (S.ext r x) v rw'
  | ex c ds h' =>
    rw [e] at q
    obtain ⟨fd, hfd, hl⟩ := hfd (by rw [e]; exact fun z => nomatch z)
    refine ⟨fd, hfd, hl, B.c, b, m, F, [], hq, hb, hB, S.hr, .nil, ?_⟩
    rw [e]
    exact fun m' F' H' cls dx x r y => q m' F' H' cls dx x r y
theorem snd_dnew : SndE M xr T n b B .dnew := by
  intro X Wx sc p k h
  cases p <;> try (simp only [matE, Bool.false_eq_true] at h; done)
  rename_i ks vs pos
  cases ks <;> try (simp [matE] at h; done)
  cases vs <;> try (simp [matE] at h; done)
  refine SE.of_plain ((pe_dnewG (pos := pos) k.hw).weak fun σ H Q q => ?_) (fun _ => rfl) rfl
  obtain ⟨m, F, env, hq, S, q⟩ := q
  simp only [evE] at q
  intro p hp hs
  exact PostE.newL (o := .dct []) q S hp ⟨S.hr.freeF hp, [], upd_same, .nil, by simp, hs, by simp⟩
theorem snd_dnewI : SndE M xr T n b B .dnewI := by
  intro X Wx sc p k h
  cases p <;> try (simp only [matE, Bool.false_eq_true] at h; done)
  rename_i ks vs pos
  cases ks <;> try (simp [matE] at h; done)
  cases vs <;> try (simp [matE] at h; done)
  refine SE.of_plain ((pe_dnewK (pos := pos)).weak fun σ H Q q => ?_) (fun _ => rfl) rfl
  obtain ⟨m, F, env, hq, S, q⟩ := q
  simp only [evE] at q
  intro p hp
  exact PostE.newL (o := .dki []) q S hp ⟨S.hr.freeF hp, [], upd_same, .nil, by simp⟩
end
end Ev

/-! EvX: range as an argument, isinstance, a module's whole number. -/
namespace Ev
open PySem PySem.Spec L2
variable [Wd]
section
variable {M : ME} {xr : XRel} {T : List FD} {n b : Nat} {B : BB}
theorem snd_bad : SndE M xr T n b B .bad := by
  intro X Wx sc p k h
  have hz : ∀ {σ H Q}, tE X.K xr B Wx (evE b (callN T n) .bad) σ H Q → False := fun {σ H Q} q => by
    obtain ⟨m, F, env, hq, S, q⟩ := q
    simp only [evE] at q
    exact q
  refine ⟨⟨fun pins s σ H Q I q => (hz q).elim⟩, fun _ => ⟨fun pins s σ H Q I q => ?_⟩, fun _ => ⟨fun w pins s σ H Q I q => ?_⟩⟩
  · obtain ⟨m, F, env, hq, S, q⟩ := q
    simp only [evE] at q
    exact q.elim
  · obtain ⟨m, F, env, hq, S, q⟩ := q
    simp only [evE] at q
    exact q.elim
theorem snd_glb (i : Int) : SndE M xr T n b B (.glb i) := by
  intro X Wx sc p k h
  cases p <;> simp only [matE, Bool.false_eq_true] at h
  rename_i x pos
  simp only [Bool.and_eq_true, List.contains_iff_mem] at h
  obtain ⟨t, hm⟩ := k.gls x i h.1.1
  refine SE.of_plain ((pe_glob (v := .int i) (gl_of k.hs h.1.2) hm ⟨t, rfl⟩ (plainN_of h.2).1).weak fun σ H Q q => ?_) (fun _ => rfl) rfl
  obtain ⟨m, F, env, hq, S, q⟩ := q
  simp only [evE] at q
  exact PostE.now q S (.int _)
theorem rgV_eq (n : Int) : rgV 0 n = ((List.range n.toNat).map fun i => ((i : Nat) : Int)).map V.int := by
  unfold rgV
  rw [List.map_map]
  simp
theorem dps_range {K : PySem.W.Frag} {F : Hp} (n : Int) : DpAll K F (rgV 0 n) ((List.range n.toNat).map fun i => PyData.int (i : Nat)) := by
  rw [rgV_eq]
  generalize List.range n.toNat = l
  induction l with
  | nil => exact .nil
  | cons x l ih => exact .cons (.int _) ih
theorem rg_RgOk {n : Int} (h : rgOk 0 n = true) : RgOk 0 n := by
  unfold rgOk at h
  have := of_decide_eq_true h
  unfold RgOk
  omega
theorem rgOf_ok {sc : Scope} {q pa : Expr} (h : rgOf sc q = some pa) : ∃ p pos, q = .Call (.Name "range" p) [pa] [] pos ∧ isGl sc "range" = true ∧ notStar pa = true := by
  unfold rgOf at h
  split at h
  · split at h
    · rename_i h'
      obtain ⟨rfl, h2, h3⟩ := h'
      cases h
      exact ⟨_, _, rfl, h2, h3⟩
    · cases h
  · cases h
theorem snd_trg {t : Bool} {a : E} (ha : SndE M xr T n b B a) : SndE M xr T n b B (.trg t a) := by
  intro X Wx sc p k h
  cases p <;> try (simp only [matE, Bool.false_eq_true] at h; done)
  rename_i pf ps kw pos
  cases pf <;> try (simp [matE] at h; done)
  rename_i x p2
  rcases ps with _ | ⟨q, _ | ⟨p2, ps⟩⟩ <;> try (simp [matE] at h; done)
  cases kw <;> try (simp [matE] at h; done)
  simp only [matE, Bool.and_eq_true, decide_eq_true_eq] at h
  obtain ⟨⟨⟨⟨hcm, rfl⟩, h1⟩, h2⟩, h3⟩ := h
  split at h3
  · rename_i pa eq
    obtain ⟨p3, pos3, rfl, g, ns⟩ := rgOf_ok eq
    have inner := prg_1 (p := p3) (pos := pos3) (gl_of k.hs g) (k.bl _ (by decide +kernel)) (ha X Wx sc pa k h3).pe (star1 ns)
    have rd : ∀ {σ H Q}, tE X.K xr B Wx (evE b (callN T n) (.trg t a)) σ H Q → tRg1 (tE X.K xr B Wx (evE b (callN T n) a)) σ H fun i j H1 => RgOk i j ∧ ∀ q, H1 q = none → Q (.ref q) (upd H1 q (if t then .tup (rgV i j) else .lst (rgV i j))) := fun {σ H Q} q => by
      simp only [tE, evE] at q
      refine bind1 (ra := evE b (callN T n) a) q fun m F env hq H w v S r q => ?_
      split at q
      · rename_i nn
        split at q
        · rename_i hr
          have r : Dp X.K F v (.int nn) := r
          cases r
          refine ⟨nn, rfl, rg_RgOk hr, fun p hp => ?_⟩
          cases t
          · exact PostE.newF q S hp (.lst sq_new (dps_mono (HpLe.upd (S.hr.freeF hp)) _ _ (dps_range nn)))
          · exact PostE.newF q S hp (.tup st_new (dps_mono (HpLe.upd (S.hr.freeF hp)) _ _ (dps_range nn)))
        · exact q.elim
      · exact q.elim
    cases t
    · exact SE.of_plain ((pe_listRg (p := p2) (pos := pos) (k.clm hcm) (gl_of k.hs h1) (k.bl _ (by decide +kernel)) inner (star1 h2)).weak fun σ H Q q => rd q) (fun _ => rfl) rfl
    · exact SE.of_plain ((pe_tupRg (p := p2) (pos := pos) (k.clm hcm) (gl_of k.hs h1) (k.bl _ (by decide +kernel)) inner (star1 h2)).weak fun σ H Q q => rd q) (fun _ => rfl) rfl
  · cases h3

theorem now_reads {X : Cx} {pins : List (Addr × Obj)} {s : Shared} {σ : L2.St} {m : List Addr} {F H : Hp} {h : Hq} (I : Inv X pins σ H s) (S : HR X.K B.c m F h H) {w : W} {v : V} {u : Value} {d : PyData} (r : WR X.K m F v w) (e : toD h w = some d) (rv : RelV v u) : ∃ as, Reads s.heap u d as :=
  Dp.reads I d v u ((now_of S r e).dp S.sub) rv
def Ity.tn : Ity → String
  | .int => "int" | .bool => "bool" | .str => "str" | .tuple => "tuple"
theorem cr_isa {X : Cx} {Wx : WX} (c : Ity) : CallR X (.builtin "isinstance") (fun xs H Q => ∃ m F env h σ w v x, SR X.K B m F env h σ H ∧ WR X.K m F v w ∧ xs = [v, .ty c.tn] ∧ toD h w = some x ∧ PostE X.K xr B Wx m F env σ H (.ok (.d (.bool (isaD c x))) h) Q) := by
  intro pins s σ H xs us Q I rs hq
  obtain ⟨m, F, env, h, σ', w, v, x, S, r, rfl, e, p⟩ := hq
  obtain ⟨u1, u2, rfl, r1, r2⟩ := vals2 rs
  obtain ⟨as, rd⟩ := now_reads I S.hr r e r1
  have q := PostE.now p S (.bl _)
  cases c
  · cases (show u2 = Value.type "int" from r2)
    exact PySem.W.isinstance_int_data rd fun tk _ => ⟨.bl _, H, I.tok tk, (by cases x <;> rfl), q⟩
  · cases (show u2 = Value.type "bool" from r2)
    exact PySem.W.isinstance_bool_data rd fun tk _ => ⟨.bl _, H, I.tok tk, (by cases x <;> rfl), q⟩
  · cases (show u2 = Value.type "str" from r2)
    exact PySem.W.isinstance_str_data rd fun tk _ => ⟨.bl _, H, I.tok tk, (by cases x <;> rfl), q⟩
  · cases (show u2 = Value.type "tuple" from r2)
    exact PySem.W.isinstance_tuple_data rd fun tk _ => ⟨.bl _, H, I.tok tk, (by cases x <;> rfl), q⟩
theorem snd_isa {c : Ity} {a : E} (ha : SndE M xr T n b B a) : SndE M xr T n b B (.isa c a) := by
  intro X Wx sc p k h
  cases p <;> try (simp only [matE, Bool.false_eq_true] at h; done)
  rename_i pf ps kw pos
  cases pf <;> try (simp [matE] at h; done)
  rename_i x p2
  rcases ps with _ | ⟨pa, _ | ⟨q, _ | ⟨p3, ps⟩⟩⟩ <;> try (simp [matE] at h; done)
  cases kw <;> try (simp [matE] at h; done)
  simp only [matE, Bool.and_eq_true, decide_eq_true_eq] at h
  obtain ⟨⟨⟨⟨⟨rfl, h1⟩, h2⟩, h3⟩, h4⟩, h5⟩ := h
  cases q <;> simp only [isTy, Bool.false_eq_true, Bool.and_eq_true, decide_eq_true_eq] at h4
  rename_i y p3
  obtain ⟨rfl, g⟩ := h4
  have pt : PE X (.Name c.nm p3) (tC (.ty c.tn)) := by
    cases c
    · exact pe_bltn (gl_of k.hs g) (k.bl _ (by decide +kernel)) (u := .type "int") (by decide +kernel) rfl (by decide +kernel) (by decide +kernel)
    · exact pe_bltn (gl_of k.hs g) (k.bl _ (by decide +kernel)) (u := .type "bool") (by decide +kernel) rfl (by decide +kernel) (by decide +kernel)
    · exact pe_bltn (gl_of k.hs g) (k.bl _ (by decide +kernel)) (u := .type "str") (by decide +kernel) rfl (by decide +kernel) (by decide +kernel)
    · exact pe_bltn (gl_of k.hs g) (k.bl _ (by decide +kernel)) (u := .type "tuple") (by decide +kernel) rfl (by decide +kernel) (by decide +kernel)
  refine SE.of_plain ((pe_callB (p := p2) (pos := pos) (cr_isa (xr := xr) (B := B) (Wx := Wx) c) (gl_of k.hs h1) (k.bl _ (by decide +kernel)) (by decide +kernel) (pa_cons (ha X Wx sc pa k h5).pe (pa_cons pt pa_nil (star1 h3)) (star1 h2)) (by decide +kernel) (by decide +kernel) (star1 h2) (by rw [star1 h3]; rfl)).weak fun σ H Q q => ?_) (fun _ => rfl) rfl
  simp only [tE, evE] at q
  refine bind1 (ra := evE b (callN T n) a) q fun m F env hq H w v S r q => ?_
  split at q
  · rename_i d e
    exact ⟨m, F, env, hq, σ, w, v, d, S, r, rfl, e, q⟩
  · exact q.elim
/-! ### {..}.get(k, d) -/
theorem pe_intC {X : Cx} {v : Expr} {i : Int} (h : intC v = some i) : PE X v (tC (.int i)) := by
  unfold intC at h
  split at h
  · cases h
    exact pe_int
  · cases h
    exact (pe_un un_neg pe_int).weak fun σ H Q q => ⟨_, rfl, q⟩
  · cases h
def kvT (kvs : List (Str × Int)) : List (TE × TE) := kvs.map fun p => (tC (.str p.1), tC (.int p.2))
theorem pps_kv {X : Cx} {pos : Pos} : ∀ {kvs : List (Str × Int)} {ks : List (Option Expr)} {vs : List Expr}, matKV kvs ks vs = true → PPs X pos ks vs (kvT kvs) ∧ ks.all (·.isSome) = true ∧ ks.length = vs.length ∧ ks.length = kvs.length
  | [], [], [], _ => ⟨pps_nil, rfl, rfl, rfl⟩
  | [], [], _ :: _, h => by simp [matKV] at h
  | [], _ :: _, _, h => by simp [matKV] at h
  | _ :: _, [], _, h => by simp [matKV] at h
  | _ :: _, _ :: _, [], h => by simp [matKV] at h
  | (s, i) :: r, k :: ks, v :: vs, h => by
    simp only [matKV, Bool.and_eq_true, decide_eq_true_eq] at h
    obtain ⟨⟨h1, h2⟩, h3⟩ := h
    obtain ⟨a, b, c, d⟩ := pps_kv (X := X) (pos := pos) h3
    unfold keyIsC at h1
    split at h1
    · simp only [decide_eq_true_eq] at h1
      subst h1
      exact ⟨pps_cons pe_str (pe_intC h2) a, by simp [b], by simp [c], by simp [d]⟩
    · cases h1
def kvV (kvs : List (Str × Int)) : List (Key × V) := kvs.map fun p => (Sum.inr p.1, V.int p.2)
theorem tPairs_kv {σ : L2.St} {H : Hp} : ∀ {kvs : List (Str × Int)} {Q : List (V × V) → Hp → Prop}, Q ((kvV kvs).map fun kv => (kV kv.1, kv.2)) H → tPairs (kvT kvs) σ H Q
  | [], _, h => h
  | p :: r, Q, h => tPairs_kv (kvs := r) (Q := fun ps H3 => Q ((V.str p.1, V.int p.2) :: ps) H3) h
theorem look_merge (s : Str) : ∀ (kvs : List (Str × Int)) (acc : List (Key × V)) (o : Option Int), valV acc (Sum.inr s) = o.map V.int → valV (mergeK acc (kvV kvs)) (Sum.inr s) = (kvs.foldl (fun acc p => if s = p.1 then some p.2 else acc) o).map V.int
  | [], acc, o, h => h
  | p :: r, acc, o, h => by
    show valV (mergeK (putK acc (Sum.inr p.1) (V.int p.2)) (kvV r)) (Sum.inr s) = _
    rw [List.foldl_cons]
    refine look_merge s r _ _ ?_
    rw [valV_put]
    by_cases e : s = p.1
    · subst e; simp
    · have : ¬ (Sum.inr s : Key) = Sum.inr p.1 := fun z => e (Sum.inr.inj z)
      simp only [if_neg this, if_neg e]
      exact h
theorem PostG.shift {α : Type} {K : PySem.W.Frag} {Wx : WX} {m m1 : List Addr} {F F1 H H1 : Hp} {env : Vars} {σ : L2.St} {r : R α} {P : α → Hq → List Addr → Hp → Hp → Prop} (p : PostG K xr B Wx m F env σ H r P) (x : Ext m F H m1 F1 H1) : PostG K xr B Wx m1 F1 env σ H1 r P := by
  cases r with
  | ok a h => exact fun m2 F2 H2 e => p m2 F2 H2 (x.trans e)
  | ex c ds h => exact fun m2 F2 H2 cls dx e => p m2 F2 H2 cls dx (x.trans e)
  | bad => exact p
theorem snd_dlg {kvs : List (Str × Int)} {e1 e2 : E} (h1 : SndE M xr T n b B e1) (h2 : SndE M xr T n b B e2) : SndE M xr T n b B (.dlg kvs e1 e2) := by
  intro X Wx sc p k h
  cases p <;> try (simp only [matE, Bool.false_eq_true] at h; done)
  rename_i pf ps kw cp
  cases pf <;> try (simp [matE] at h; done)
  rename_i po x ap
  rcases ps with _ | ⟨pk, _ | ⟨pd, _ | ⟨p3, ps⟩⟩⟩ <;> try (simp [matE] at h; done)
  cases kw <;> try (simp [matE] at h; done)
  simp only [matE, Bool.and_eq_true, decide_eq_true_eq] at h
  obtain ⟨⟨⟨⟨⟨⟨rfl, hl⟩, n1⟩, n2⟩, hd⟩, m1⟩, m2⟩ := h
  cases po <;> simp only [dictOf, Bool.false_eq_true] at hd
  rename_i ks vs dp
  simp only [Bool.and_eq_true, decide_eq_true_eq] at hd
  obtain ⟨⟨hk, hlen⟩, h15⟩ := hd
  obtain ⟨pp, hall, hlv, _⟩ := pps_kv (X := X) (pos := dp) hk
  have hs1 : starEach [pk, pd] X.env = [(false, eval pk X.env), (false, eval pd X.env)] := by rw [star1 n1, star1 n2]; rfl
  have disp := pe_disp pp hall hlv (by intro z; rw [z] at hlen; simp at hlen) h15
  have m : M2 X (.Dict ks vs dp) "get" ap pk pd cp := ⟨rfl, by rw [hs1]; rfl, hl, by rw [hs1]; rfl⟩
  have hu : X.A.units + 1 < cLine := by have := k.hu; omega
  refine SE.of_plain ((pe_dget2 hu disp (h1 X Wx sc pk k m1).pe (h2 X Wx sc pd k m2).pe m).weak fun σ H Q q => ?_) (fun _ => rfl) rfl
  intro p hp
  refine tPairs_kv ⟨upd_same, kvV kvs, rfl, ?_, p, rfl, .inl ⟨_, .inl upd_same⟩, ?_⟩
  · obtain ⟨_, _, _, e⟩ := pps_kv (X := X) (pos := dp) hk
    unfold kvV
    rw [List.length_map, ← e]
    exact h15
  obtain ⟨m0, F, env, hq, S, q⟩ := q
  simp only [evE] at q
  have uu : upd (upd H p (.dK [])) p (.dK (mergeK [] (kvV kvs))) = upd H p (.dK (mergeK [] (kvV kvs))) := by
    funext a
    unfold upd
    split <;> rfl
  rw [uu]
  have fp := S.hr.freeF hp
  have mp := S.hr.freeM hp
  have S1 : SR X.K B m0 F env hq σ (upd H p (.dK (mergeK [] (kvV kvs)))) := ⟨S.hr.other fp mp, S.el, S.var, S.exv⟩
  have x0 : Ext m0 F H m0 F (upd H p (.dK (mergeK [] (kvV kvs)))) := ⟨.refl _, .refl _, fun a o e _ => by
    rw [upd_ne (fun z => by rw [z, hp] at e; cases e)]; exact e, fun a h g => absurd h g, fun _ _ h _ => h⟩
  have q := PostG.shift q x0
  refine ⟨m0, F, env, hq, S1, q.bind.mono fun w1 hq1 m1 F1 H1 x1 S1 qa v1 r1 => ⟨m1, F1, env, hq1, S1, qa.bind.mono fun w2 hq2 m2 F2 H2 x2 S2 q v2 r2 => ?_⟩⟩
  have hd1 : H1 p = some (.dK (mergeK [] (kvV kvs))) := x1.frm p _ upd_same mp
  have mp1 : p ∉ m1 := fun z => by
    have := x1.new p z mp
    rw [upd_same] at this
    cases this
  have hd2 : H2 p = some (.dK (mergeK [] (kvV kvs))) := x2.frm p _ hd1 mp1
  cases w1 with
  | l _ => exact q.elim
  | x _ _ => exact q.elim
  | d dd =>
    cases dd
    case str s =>
      have r1 : Dp X.K F1 v1 (.str s) := r1
      cases r1
      refine ⟨_, DGet.k (k := Sum.inr s) hd2, ?_⟩
      rw [look_merge s kvs [] none rfl]
      simp only [dlook] at q
      cases hh : kvs.foldl (fun acc p => if s = p.1 then some p.2 else acc) none with
      | some i => rw [hh] at q; exact PostE.now q S2 (.int _)
      | none => rw [hh] at q; exact PostE.now q S2 r2
    all_goals exact q.elim
end
end Ev

/-! EvQ: texts of the top; isinstance of an exception in hand, its fields. -/
namespace Ev
open PySem PySem.Spec PyProof.Rows L2
variable [Wd]
/-- isinstance(e, C), e the exception that the suite holds -/
theorem call_isX {X : Cx} {a D : Addr} {dx : Option Addr} {oe : Obj} {pn : List (Addr × Obj)} (C : L2.ExcC X.K D) (hz : Zc (.ref D) dx oe) (hf : ∃ vs, oe.data = .fields vs) : CallR (X.suite a ((a, oe) :: pn)) (.builtin "isinstance") (fun xs H Q => ∃ (c : V) (cv : Value) (b : Bool), xs = [.ref a, c] ∧ (∀ u, RelV c u → u = cv) ∧ PySem.W.kitOne X.K (.ref D) cv = some b ∧ (∀ dd, dx = some dd → ∃ fs, H dd = some (.xd fs)) ∧ Q (.bl b) H) := by
  intro pins s σ H xs us Q I r h
  obtain ⟨c, cv, b, rfl, hcv, e, hdx, q⟩ := h
  cases r with
  | cons rx rr =>
    cases rr with
    | cons rt rr =>
      cases rr
      cases rx
      have ec := hcv _ rt
      subst ec
      obtain ⟨hget, _⟩ := I.pin (a, oe) (List.mem_append.mpr (.inl List.mem_cons_self))
      obtain ⟨vs, hv⟩ := hf
      obtain ⟨od, J⟩ : ∃ od, PySem.W.InstAt s.heap a oe D od := by
        obtain ⟨oc, od, oda, osl⟩ := oe
        obtain ⟨h1, h2⟩ := hz
        dsimp only at h1 h2 hv
        subst h1 h2 hv
        cases od with
        | none => exact ⟨none, hget, rfl, rfl, trivial⟩
        | some dd =>
          obtain ⟨fs, e⟩ := hdx dd rfl
          have hx : ObjOk X.prog X.w H s.heap dd (.xd fs) := I.hok dd _ e
          obtain ⟨mA, hns, hr⟩ := hx
          obtain ⟨od, ho, hl⟩ := lookIn_ns hns
          exact ⟨some od, hget, rfl, rfl, ho⟩
      have hcl : (PySem.W.clsIn X.K D).isSome = true := by
        have := C.hd
        unfold PySem.W.hasDictIn at this
        cases q : PySem.W.clsIn X.K D with
        | none => rw [q] at this; simp at this
        | some _ => rfl
      exact PySem.W.kia_one (PySem.W.kitx_exc (od := od) hcl C.hg C.hk C.hs C.ha C.hn C.ht C.hm) I.kIn J e (fun z => nomatch z) fun tk => ⟨.bl b, H, I.kept (t' := tk) fun _ _ z => z, rfl, q⟩
section
variable {M : ME} {xr : XRel} {T : List FD} {n b : Nat} {B : BB}
theorem snd_glbS (z : Str) : SndE M xr T n b B (.glbS z) := by
  intro X Wx sc p k h
  cases p <;> simp only [matE, Bool.false_eq_true] at h
  rename_i x pos
  simp only [Bool.and_eq_true, List.contains_iff_mem] at h
  obtain ⟨t, hm⟩ := k.glz x z h.1.1
  refine SE.of_plain ((pe_glob (v := .str z) (gl_of k.hs h.1.2) hm ⟨t, rfl⟩ (plainN_of h.2).1).weak fun σ H Q q => ?_) (fun _ => rfl) rfl
  obtain ⟨m, F, env, hq, S, q⟩ := q
  simp only [evE] at q
  exact PostE.now q S (.str _)
theorem clsAt_ok {M : ME} {z : Str} {cs : List Nat} (h : clsAt M z cs = true) : ∃ (j : Nat) (e : CDef), M.cls[j]? = some e ∧ e.nm = z ∧ e.subs = cs := by
  unfold clsAt at h
  obtain ⟨e, he, h⟩ := List.any_eq_true.mp h
  simp only [Bool.and_eq_true, decide_eq_true_eq] at h
  obtain ⟨j, hj⟩ := List.getElem?_of_mem he
  exact ⟨j, e, hj, h.1, h.2⟩
/-- the slot of the exception in hand -/
theorem exSlot {X : Cx} {Wx : WX} {sc : Scope} {i : Nat} (k : XOk X Wx M xr T n B sc) (h : M.xs = some i) : ∃ e, B.ex = some e ∧ e.i = i ∧ ExOk X M.cls e := by
  have q := k.xs
  rw [h] at q
  cases q2 : B.ex with
  | none => rw [q2] at q; cases q
  | some e =>
    rw [q2] at q
    exact ⟨e, rfl, (Option.some.inj q).symm, k.ex e q2⟩
/-- a class's name, as a value -/
theorem pe_cls {X : Cx} {Wx : WX} {sc : Scope} (k : XOk X Wx M xr T n B sc) {j : Nat} {e : CDef} (he : M.cls[j]? = some e) {pos : Pos} (hg : Gl X e.nm) (hn : (e.nm == ("__debug__" : Str)) = false) : ∃ v : V, PE X (.Name e.nm pos) (tC v) ∧ ∀ u, RelV v u → u = cV X.K e := by
  cases ho : e.own with
  | true =>
    refine ⟨.ref (cA X.K e), pe_glob hg (k.cls j e he ho).gC rfl hn, fun u r => ?_⟩
    cases r
    simp [cV, ho]
  | false =>
    obtain ⟨h1, h2⟩ := k.bcl e (List.mem_of_getElem? he) ho
    refine ⟨.ty "ValueError", pe_bltn (u := .type "ValueError") hg h1 (by rw [h2]; decide +kernel) rfl (by rw [h2]; decide +kernel) hn, fun u r => ?_⟩
    have r : u = .type "ValueError" := r
    simp [cV, ho, r]
theorem snd_exis (i : Nat) (cs : List Nat) : SndE M xr T n b B (.exis i cs) := by
  intro X Wx sc p k h
  cases p <;> try (simp only [matE, Bool.false_eq_true] at h; done)
  rename_i pf ps kw pos
  cases pf <;> try (simp [matE] at h; done)
  rename_i x p2
  rcases ps with _ | ⟨q1, _ | ⟨q2, _ | ⟨q3, ps⟩⟩⟩ <;> try (simp [matE] at h; done)
  cases q1 <;> try (simp [matE] at h; done)
  rename_i y py
  cases q2 <;> try (simp [matE] at h; done)
  rename_i z pz
  cases kw <;> try (simp [matE] at h; done)
  simp only [matE, Bool.and_eq_true, decide_eq_true_eq] at h
  obtain ⟨⟨⟨⟨⟨⟨⟨⟨hxs, rfl⟩, g1⟩, a1⟩, v1⟩, n1⟩, cl⟩, g2⟩, n2⟩ := h
  obtain ⟨e, he, hei, X0, oe, pn, cls, dx, hX, hz, hf, hR⟩ := exSlot k hxs
  obtain ⟨j, ec, hj, hnm, hsub⟩ := clsAt_ok cl
  obtain ⟨m4, m5, _⟩ := plainN_of n1
  obtain ⟨m6, _, _⟩ := plainN_of n2
  subst hnm
  obtain ⟨v, pv, hv⟩ := pe_cls k hj (pos := pz) (gl_of k.hs g2) m6
  have px : PE X (.Name y py) (tVar i) := pe_var (i := i) (by rw [k.hN]; exact of_decide_eq_true a1) (by rw [k.hs]; exact vis_of v1) m4 m5
  -- the class of the exception: told by R, whatever F
  have call : ∀ {D : Addr} {d : CDef} {c : Nat}, cls = .ref D → M.cls[c]? = some d → d.own = true → D = cA X.K d → CallR X (.builtin "isinstance") (fun xs H Q => ∃ (cc : V) (cv : Value) (b : Bool), xs = [.ref e.a, cc] ∧ (∀ u, RelV cc u → u = cv) ∧ PySem.W.kitOne X.K (.ref D) cv = some b ∧ (∀ dd, dx = some dd → ∃ fs, H dd = some (.xd fs)) ∧ Q (.bl b) H) := by
    intro D d c hcls hd ho hD
    have C := (k.cls c d hd ho).iC
    rw [← hD] at C
    subst hX
    exact call_isX (X := X0) C (hcls ▸ hz) hf
  by_cases hex : ∃ F, e.R F
  · obtain ⟨F0, r0⟩ := hex
    obtain ⟨d, hd, ho, hcls, _, _⟩ := hR F0 r0
    have C := call hcls hd ho rfl
    refine SE.of_plain ((pe_callB C (gl_of k.hs g1) (k.bl _ (by decide +kernel)) (by decide +kernel) (pa_cons px (pa_cons pv pa_nil)) (by decide +kernel) (by decide +kernel) rfl rfl).weak fun σ H Q q => ?_) (fun _ => rfl) rfl
    obtain ⟨m, F, env, hq, S, q⟩ := q
    obtain ⟨ev, es, er⟩ := S.exv e he
    rw [hei] at ev es
    simp only [evE, ev] at q
    refine ⟨.ref e.a, es, ?_⟩
    refine ⟨v, cV X.K ec, ec.subs.contains e.n, rfl, hv, ?_, fun dd hdd => ?_, ?_⟩
    · exact (k.cls e.n d hd ho).kit j ec hj
    · obtain ⟨d2, _, _, _, _, alt⟩ := hR F er
      rcases alt with ⟨_, z⟩ | ⟨a, vs, z, hF, _⟩
      · rw [z] at hdd; cases hdd
      · rw [z] at hdd; cases hdd
        exact ⟨_, S.hr.sub _ _ hF⟩
    · rw [hsub]
      exact PostE.now q S (.bl _)
  · refine SE.of_plain ((pe_callB (id := "isinstance") (r := fun _ _ _ => False) (fun _ _ _ _ _ _ _ _ _ z => z.elim) (gl_of k.hs g1) (k.bl _ (by decide +kernel)) (by decide +kernel) (pa_cons px (pa_cons pv pa_nil)) (by decide +kernel) (by decide +kernel) rfl rfl).weak fun σ H Q q => ?_) (fun _ => rfl) rfl
    obtain ⟨m, F, env, hq, S, q⟩ := q
    obtain ⟨ev, es, er⟩ := S.exv e he
    exact absurd ⟨F, er⟩ hex
theorem zip_at {fs : List Str} {vs : List V} {ds : List PyData} {K : PySem.W.Frag} {F : Hp} {j : Nat} {f : Str} {d : PyData} (h : DpAll K F vs ds) (hl : ds.length = fs.length) (hn : fs.Nodup) (e1 : fs[j]? = some f) (e2 : ds[j]? = some d) : ∃ v, (fs.zip vs).lookup f = some v ∧ Dp K F v d := by
  obtain ⟨v, e3, r⟩ := h.get e2
  refine ⟨v, ?_, r⟩
  clear h hl e2 r
  induction fs generalizing vs j with
  | nil => simp at e1
  | cons g fs ih =>
    cases vs with
    | nil => simp at e3
    | cons u vs =>
      have hn := List.nodup_cons.mp hn
      cases j with
      | zero =>
        simp at e1 e3
        subst e1 e3
        simp [List.zip_cons_cons, List.lookup]
      | succ j =>
        have e1' : fs[j]? = some f := by simpa using e1
        have e3' : vs[j]? = some v := by simpa using e3
        have ne : f ≠ g := fun z => hn.1 (z ▸ List.mem_of_getElem? e1')
        have : (f == g) = false := by simp [ne]
        simp only [List.zip_cons_cons, List.lookup, this]
        exact ih hn.2 e1' e3'
theorem snd_exfld (i : Nat) (js : List (Nat × Nat)) : SndE M xr T n b B (.exfld i js) := by
  intro X Wx sc p k h
  cases p <;> try (simp only [matE, Bool.false_eq_true] at h; done)
  rename_i pf f pos
  cases pf <;> try (simp [matE] at h; done)
  rename_i y py
  simp only [matE, Bool.and_eq_true, decide_eq_true_eq, List.all_eq_true] at h
  obtain ⟨⟨⟨⟨hxs, a1⟩, v1⟩, n1⟩, hjs⟩ := h
  obtain ⟨e, he, hei, X0, oe, pn, cls, dx, hX, hz, hf, hR⟩ := exSlot k hxs
  obtain ⟨m4, m5, _⟩ := plainN_of n1
  have px : PE X (.Name y py) (tVar i) := pe_var (i := i) (by rw [k.hN]; exact of_decide_eq_true a1) (by rw [k.hs]; exact vis_of v1) m4 m5
  by_cases hex : ∃ F j x, e.R F ∧ js.lookup e.n = some j ∧ e.ds[j]? = some x
  · obtain ⟨F0, j, x, r0, hj, hx⟩ := hex
    obtain ⟨d, hd, ho, hcls, hdl, alt0⟩ := hR F0 r0
    have C := k.cls e.n d hd ho
    have mem : (e.n, j) ∈ js := by
      clear hjs
      induction js with
      | nil => cases hj
      | cons q js ih =>
        obtain ⟨q1, q2⟩ := q
        by_cases ee : e.n = q1
        · subst ee
          simp [List.lookup] at hj
          subst hj
          exact List.mem_cons_self
        · have : (e.n == q1) = false := by simp [ee]
          simp only [List.lookup, this] at hj
          exact List.mem_cons_of_mem _ (ih hj)
    have hfj : d.fl[j]? = some f := by
      have := hjs _ mem
      rw [hd] at this
      exact of_decide_eq_true this
    have hno := C.fF f (List.mem_of_getElem? hfj)
    have pp : PE X (.Attribute (.Name y py) f pos) (tXf e.a cls dx (cA X.K d) f (tVar i)) := by
      subst hX
      exact pe_xf (X := X0) (C := cA X0.K d) ⟨C.iC.hg, C.iC.hk, C.iC.hs, C.iC.hd⟩ hno hz hf px
    refine SE.of_plain (pp.weak fun σ H Q q => ?_) (fun _ => rfl) rfl
    obtain ⟨m, F, env, hq, S, q⟩ := q
    obtain ⟨ev, es, er⟩ := S.exv e he
    rw [hei] at ev es
    simp only [evE, ev, hj, Option.bind_some, hx] at q
    refine ⟨.ref e.a, es, rfl, hcls, ?_⟩
    obtain ⟨d2, hd2, _, _, hdl2, alt⟩ := hR F er
    rw [hd] at hd2
    cases hd2
    rcases alt with ⟨z, _⟩ | ⟨a, vs, z, hF, hD⟩
    · rw [z] at hfj; simp at hfj
    · obtain ⟨v, lv, rv⟩ := zip_at hD hdl2 C.fN hfj hx
      exact ⟨a, _, v, z, S.hr.sub _ _ hF, lv, PostE.now q S rv⟩
  · refine SE.of_plain (PE.weak (t := fun _ _ _ => False) ⟨fun _ _ _ _ _ _ z => z.elim⟩ fun σ H Q q => ?_) (fun _ => rfl) rfl
    obtain ⟨m, F, env, hq, S, q⟩ := q
    obtain ⟨ev, es, er⟩ := S.exv e he
    rw [hei] at ev
    simp only [evE, ev] at q
    cases hj : js.lookup e.n with
    | none => rw [hj] at q; exact q.elim
    | some j =>
      rw [hj, Option.bind_some] at q
      cases hx : e.ds[j]? with
      | none => rw [hx] at q; exact q.elim
      | some x => exact absurd ⟨F, j, x, er, hj, hx⟩ hex
end
end Ev

/-! EvK: comprehensions; every expression (sndE). -/
namespace Ev
open PySem PySem.Spec L2
variable [Wd]
section
variable {M : ME} {xr : XRel} {T : List FD} {n b : Nat} {B : BB}
def SndIt (M : ME) (xr : XRel) (T : List FD) (n b : Nat) (B : BB) (it : It) : Prop := ∀ (X : Cx) (Wx : WX) (sc : Scope) (tg p : Expr), XOk X Wx M xr T n B sc → matIt M sc it p = true → PI X tg p (tI X.K xr B Wx (evIt b (callN T n) it))
theorem tI_of {K : PySem.W.Frag} {Wx : WX} {ra : Vars → Hq → R W} {g : W → Hq → R (List W × Option Nat)} {σ : L2.St} {H : Hp} {G : L2.It → Hp → Prop} {Q' : VK} (p : tI K xr B Wx (fun env h => (ra env h).bind g) σ H G)
    (i : ∀ m F env h H w v, SR K B m F env h σ H → WR K m F v w → PostG K xr B Wx m F env σ H (g w h) (fun ws h' m' F' H' => ∀ J, ItOk K ws.2 h' m' F' J ws.1 → ws.1.length ≤ sizeLine → G J H') → Q' v H) : tE K xr B Wx ra σ H Q' := by
  obtain ⟨m, F, env, h, S, p⟩ := p
  exact ⟨m, F, env, h, S, p.bind.mono fun w h1 m1 F1 H1 x1 S1 p v rv => i m1 F1 env h1 H1 w v S1 rv p⟩
theorem snd_it_e {a : E} (ha : SndE M xr T n b B a) : SndIt M xr T n b B (.e a) := by
  intro X Wx sc tg p k h
  simp only [matIt] at h
  refine (pi_seq (ha X Wx sc p k h).pe).weak fun σ H G q => ?_
  simp only [tI, evIt] at q
  refine tI_of (ra := evE b (callN T n) a) q fun m F env hq H w v S r q => ?_
  have szE := sz_eq
  cases w with
  | x _ _ => exact r.elim
  | l n =>
    obtain ⟨a, em, rfl⟩ := r
    simp only [itemsOf] at q
    refine .inr ⟨a, rfl, .inl ?_⟩
    split at q
    · rename_i ws ew
      split at ew
      · rename_i xs eo
        cases ew
        obtain ⟨f, vs, eH, dd⟩ := S.hr.ob n _ a eo em
        refine ⟨⟨vs, .of eH⟩, fun len => ?_⟩
        have hl := len vs (.of eH)
        exact q m F H (.refl ..) S _ (it_live em (.inl ⟨xs, eo, rfl⟩)) (by simp only [List.length_map]; rw [← dd.length]; exact hl)
      · rename_i ws' eo
        cases ew
        obtain ⟨f, vs, eH, dd⟩ := S.hr.ob n _ a eo em
        refine ⟨⟨vs, .of eH⟩, fun len => ?_⟩
        have hl := len vs (.of eH)
        exact q m F H (.refl ..) S _ (it_live em (.inr eo)) (by show ws.length ≤ _; rw [← dd.length]; exact hl)
      · cases ew
    · exact q.elim
  | d x =>
    have r : Dp X.K F v x := r
    cases r <;> try exact q.elim
    case str z =>
      simp only [itemsOf] at q
      split at q
      · rename_i ws ew
        split at ew
        · rename_i hz
          cases ew
          exact .inl ⟨z, rfl, q m F H (.refl ..) S _ it_str (by simp only [List.length_map, Array.length_toList]; rw [← szE]; exact hz)⟩
        · cases ew
      · exact q.elim
    case lst a vs ds sq dd =>
      refine .inr ⟨a, rfl, .inl ⟨⟨vs, S.hr.sub.sql sq⟩, fun len => ?_⟩⟩
      have hl := len vs (S.hr.sub.sql sq)
      exact q m F H (.refl ..) S _ (it_list sq dd) (by simp only [List.length_map]; rw [← dd.length]; exact hl)
    case tup a vs ds sq dd =>
      refine .inr ⟨a, rfl, .inr ⟨⟨vs, S.hr.sub.sqt sq⟩, fun len => ?_⟩⟩
      have hl := len vs (S.hr.sub.sqt sq)
      exact q m F H (.refl ..) S _ (it_tup sq dd) (by simp only [List.length_map]; rw [← dd.length]; exact hl)
theorem rg_ok {lo hi : Int} (h : rgOk lo hi = true) : -(2 ^ 61) ≤ lo ∧ lo < 2 ^ 61 ∧ -(2 ^ 61) ≤ hi ∧ hi < 2 ^ 61 ∧ hi - lo ≤ 16777216 := by unfold rgOk at h; exact of_decide_eq_true h
theorem up_len {lo hi : Int} (h : rgOk lo hi = true) : (rangeUp lo hi).length ≤ sizeLine := by
  have := rg_ok h
  rw [rangeUp, List.length_map, List.length_range, PySem.sizeLine_eq]
  omega
theorem dn_len {lo hi : Int} (h : rgOk lo hi = true) : (rangeDn hi lo).length ≤ sizeLine := by
  have := rg_ok h
  rw [rangeDn, List.length_map, List.length_range, PySem.sizeLine_eq]
  omega
theorem snd_rg1 {a : E} (ha : SndE M xr T n b B a) : SndIt M xr T n b B (.rg1 a) := by
  intro X Wx sc tg p k h
  cases p <;> try (simp only [matIt, Bool.false_eq_true] at h; done)
  rename_i pf ps kw pos
  cases pf <;> try (simp [matIt] at h; done)
  rename_i x p2
  rcases ps with _ | ⟨p, _ | ⟨p3, ps⟩⟩ <;> try (simp [matIt] at h; done)
  cases kw <;> try (simp [matIt] at h; done)
  simp only [matIt, Bool.and_eq_true, decide_eq_true_eq] at h
  obtain ⟨⟨⟨rfl, h1⟩, h2⟩, h3⟩ := h
  have a1 := (ha X Wx sc p k h3).pe
  refine (pi_range1 (p := p2) (pos := pos) (gl_of k.hs h1) (k.bl _ (by decide +kernel)) (pa_cons a1 pa_nil (star1 h2)) (by rw [star1 h2]; rfl)).weak fun σ H G q => ?_
  simp only [tI, evIt] at q
  refine tI_of (ra := evE b (callN T n) a) q fun m F env hq H w v S r q => ?_
  split at q
  · rename_i j
    split at q
    · rename_i hr
      have r : Dp X.K F v (.int j) := r
      cases r
      have hj := rg_ok hr
      refine ⟨j, rfl, by omega, by omega, ?_⟩
      have e : j.toNat = (j - 0).toNat := by rw [Int.sub_zero]
      rw [e]
      exact q m F H (.refl ..) S _ it_up (up_len hr)
    · exact q.elim
  · exact q.elim
theorem tI_of2 {K : PySem.W.Frag} {Wx : WX} {ra rb : Vars → Hq → R W} {g : W → W → Hq → R (List W × Option Nat)} {σ : L2.St} {H : Hp} {G : L2.It → Hp → Prop} {Q' : List V → Hp → Prop} (p : tI K xr B Wx (fun env h => (ra env h).bind fun w h => (rb env h).bind fun v h => g w v h) σ H G)
    (i : ∀ m F env h H w v w2 v2, SR K B m F env h σ H → WR K m F v w → WR K m F v2 w2 → PostG K xr B Wx m F env σ H (g w w2 h) (fun ws h' m' F' H' => ∀ J, ItOk K ws.2 h' m' F' J ws.1 → ws.1.length ≤ sizeLine → G J H') → Q' [v, v2] H) : tCons (tE K xr B Wx ra) (tCons (tE K xr B Wx rb) tNil) σ H Q' := by
  obtain ⟨m, F, env, h, S, p⟩ := p
  refine ⟨m, F, env, h, S, p.bind.mono fun w h1 m1 F1 H1 x1 S1 p v rv => ⟨m1, F1, env, h1, S1, p.bind.mono fun w2 h2 m2 F2 H2 x2 S2 p v2 rv2 => ?_⟩⟩
  exact i m2 F2 env h2 H2 w v w2 v2 S2 (wr_mono x2.ml x2.sub rv) rv2 p
theorem snd_rg2 {a c : E} (ha : SndE M xr T n b B a) (hc : SndE M xr T n b B c) : SndIt M xr T n b B (.rg2 a c) := by
  intro X Wx sc tg p k h
  cases p <;> try (simp only [matIt, Bool.false_eq_true] at h; done)
  rename_i pf ps kw pos
  cases pf <;> try (simp [matIt] at h; done)
  rename_i x p2
  rcases ps with _ | ⟨p, _ | ⟨p3, _ | ⟨p4, ps⟩⟩⟩ <;> try (simp [matIt] at h; done)
  cases kw <;> try (simp [matIt] at h; done)
  simp only [matIt, Bool.and_eq_true, decide_eq_true_eq] at h
  obtain ⟨⟨⟨⟨⟨rfl, h1⟩, h2⟩, h2'⟩, h3⟩, h4⟩ := h
  have a1 := (ha X Wx sc p k h3).pe
  have a2 := (hc X Wx sc p3 k h4).pe
  refine (pi_range2 (p := p2) (pos := pos) (gl_of k.hs h1) (k.bl _ (by decide +kernel)) (pa_cons a1 (pa_cons a2 pa_nil (star1 h2')) (star1 h2)) (by rw [star1 h2, star1 h2']; rfl) (by rw [star1 h2']; rfl)).weak fun σ H G q => ?_
  simp only [tI, evIt] at q
  refine tI_of2 (ra := evE b (callN T n) a) (rb := evE b (callN T n) c) q fun m F env hq H w v w2 v2 S r r2 q => ?_
  split at q
  · rename_i i j
    split at q
    · rename_i hr
      have r : Dp X.K F v (.int i) := r
      have r2 : Dp X.K F v2 (.int j) := r2
      cases r
      cases r2
      have hj := rg_ok hr
      exact ⟨i, j, rfl, ⟨by omega, by omega, by omega, by omega⟩, q m F H (.refl ..) S _ it_up (up_len hr)⟩
    · exact q.elim
  · exact q.elim
theorem snd_rgd {a c : E} (ha : SndE M xr T n b B a) (hc : SndE M xr T n b B c) : SndIt M xr T n b B (.rgd a c) := by
  intro X Wx sc tg p k h
  cases p <;> try (simp only [matIt, Bool.false_eq_true] at h; done)
  rename_i pf ps kw pos
  cases pf <;> try (simp [matIt] at h; done)
  rename_i x p2
  rcases ps with _ | ⟨p, _ | ⟨p3, _ | ⟨p4, _ | ⟨p5, ps⟩⟩⟩⟩ <;> try (simp [matIt] at h; done)
  cases kw <;> try (simp [matIt] at h; done)
  simp only [matIt, Bool.and_eq_true, decide_eq_true_eq] at h
  obtain ⟨⟨⟨⟨⟨⟨rfl, h0⟩, h1⟩, h2⟩, h2'⟩, h3⟩, h4⟩ := h
  obtain ⟨kk, pos4, pos3, rfl⟩ : ∃ kk pos4 pos3, p4 = .UnaryOp .USub (.Constant (.int 1) kk pos4) pos3 := by
    cases p4 <;> try (simp [isM1] at h0; done)
    rename_i o pc pos3
    cases o <;> try (simp [isM1] at h0; done)
    cases pc <;> try (simp [isM1] at h0; done)
    rename_i cc kk pos4
    cases cc <;> try (simp [isM1] at h0; done)
    simp only [isM1, decide_eq_true_eq] at h0
    subst h0
    exact ⟨_, _, _, rfl⟩
  have a1 := (ha X Wx sc p k h3).pe
  have a2 := (hc X Wx sc p3 k h4).pe
  have a3 : PE X (.UnaryOp .USub (.Constant (.int 1) kk pos4) pos3) (tUn (rU fun i => .int (-i)) (tC (.int 1))) := pe_un un_neg pe_int
  refine (pi_range3 (p := p2) (pos := pos) (gl_of k.hs h1) (k.bl _ (by decide +kernel)) (pa_cons a1 (pa_cons a2 (pa_cons a3 pa_nil rfl) (star1 h2')) (star1 h2)) (star1 h2) (by rw [star1 h2']; rfl)).weak fun σ H G q => ?_
  simp only [tI, evIt] at q
  obtain ⟨m, F, env, h, S, p⟩ := q
  refine ⟨m, F, env, h, S, p.bind.mono fun w h1 m1 F1 H1 x1 S1 p1 v rv => ⟨m1, F1, env, h1, S1, p1.bind.mono fun w2 h2 m2 F2 H2 x2 S2 p2 v2 rv2 => ?_⟩⟩
  clear p p1
  refine ⟨1, rfl, ?_⟩
  split at p2
  · rename_i i j
    split at p2
    · rename_i hr
      have r : Dp X.K F1 v (.int i) := rv
      have r2 : Dp X.K F2 v2 (.int j) := rv2
      cases r
      cases r2
      have hj := rg_ok hr
      exact ⟨i, j, -1, (i - j).toNat, rfl, RgC.neg (by omega) (by omega) (by omega) (by omega), p2 m2 F2 H2 (.refl ..) S2 _ it_dn (dn_len hr)⟩
    · exact p2.elim
  · exact p2.elim

theorem own_map {N : List Str} {sto : Str → Bool} : ∀ {t : List Nat} {ps : List Expr}, matTs N sto t ps = true → (ownOf N t).map (·.2) = t
  | [], _, _ => rfl
  | i :: is, [], h => by simp [matTs] at h
  | i :: is, p :: ps, h => by
    cases p <;> simp only [matTs, Bool.false_eq_true] at h
    simp only [Bool.and_eq_true, isAt, decide_eq_true_eq] at h
    obtain ⟨⟨h1, _⟩, h3⟩ := h
    have ih := own_map h3
    unfold ownOf at ih ⊢
    rw [List.filterMap_cons, h1]
    simp only [Option.map_some, List.map_cons, ih]
theorem own_mapT {N : List Str} {sto : Str → Bool} {t : List Nat} {u : Bool} {tg : Expr} (h : matT N sto t u tg = true) : (ownOf N t).map (·.2) = t := by
  unfold matT at h
  split at h
  · rename_i i x pos
    simp only [Bool.and_eq_true, isAt, decide_eq_true_eq] at h
    simp [ownOf, h.1]
  · exact own_map h
  · cases h
theorem blk_ok {X : Cx} {Wx : WX} {sc scope : Scope} (k : XOk X Wx M xr T n B sc) (hcm : M.cm = true) (s : Shared) (H : Hp) (C : Addr) (cl : List (Str × Addr)) (fp : List Addr) : XOk (X.blk s H scope (compEnvC scope cl C X.env) fp) WF M xr T n B (relS scope sc) :=
  ⟨k.calm, k.nd, k.hN, (by show relS scope X.env.scope = _; rw [k.hs]), takes0, k.hu, k.hw, k.gd, k.room, k.bl, k.gls, k.glz, k.fns, k.xrE, k.cls, k.bcl, k.xs, k.exn, fun e he => by rw [k.noex hcm] at he; cases he⟩
theorem blk_sto {X : Cx} {scope : Scope} {x : Str} (s : Shared) (H : Hp) (C : Addr) (cl : List (Str × Addr)) (fp : List Addr) (h : isSto scope x = true) :
    Loc (X.blk s H scope (compEnvC scope cl C X.env) fp).env.scope x ∧ ((X.blk s H scope (compEnvC scope cl C X.env) fp).fn x = true ∨ (X.blk s H scope (compEnvC scope cl C X.env) fp).env.scope.names.lookup x = some .local) := by
  rcases sto_of h with h | h
  · have q : (relS scope X.env.scope).names.lookup x = some .local := lookup_relS_keep (by decide) h
    exact ⟨.inl q, .inr q⟩
  · have q : (relS scope X.env.scope).names.lookup x = some .cell := lookup_relS_keep (by decide) h
    exact ⟨.inr q, .inl (by show (scope.names.lookup x == some NameKind.cell) = true; rw [h]; rfl)⟩
theorem noset {it : Expr} {env : Env} (h : notSet it = true) : ∀ x, foldedSetIterable it env x = pure x := by
  intro x
  cases it <;> first | rfl | (simp [notSet] at h)
/-- all that a comprehension needs -/
structure LcOk (X : Cx) (xr : XRel) (B : BB) (Wx : WX) (T : List FD) (n b : Nat) (t : List Nat) (u : Bool) (it : It) (c : Oe) (e : E) (pe tg pi : Expr) (ifs : List Expr) (scope : Scope) (own : List (Str × Nat)) : Prop where
  hi : PI X tg pi (tI X.K xr B Wx (evIt b (callN T n) it))
  ok : BlkOk X.N X.env.scope scope own
  hg : ∀ (s : Shared) (H : Hp) (C : Addr) (cl : List (Str × Addr)) (fp : List Addr), PG (X.blk s H scope (compEnvC scope cl C X.env) fp) tg (gT X.K t u)
  ht : ∀ (s : Shared) (H : Hp) (C : Addr) (cl : List (Str × Addr)) (fp : List Addr), PTs (X.blk s H scope (compEnvC scope cl C X.env) fp) ifs (tO X.K xr B WF (evOe b (callN T n) c))
  he : ∀ (s : Shared) (H : Hp) (C : Addr) (cl : List (Str × Addr)) (fp : List Addr), PE (X.blk s H scope (compEnvC scope cl C X.env) fp) pe (tE X.K xr B WF (evE b (callN T n) e))
  hs : ∀ x, foldedSetIterable pi X.env x = pure x
  hm : own.map (·.2) = t
  hne : t ≠ []
theorem lc_ok {X : Cx} {Wx : WX} {sc : Scope} {kk : Nat} {t : List Nat} {u : Bool} {it : It} {c : Oe} {e : E} {pe tg pi : Expr} {ifs : List Expr} {scope : Scope} {a : Int} {pos : Pos} (k : XOk X Wx M xr T n B sc) (hit : SndIt M xr T n b B it) (hc : ∀ e, c = .some e → SndE M xr T n b B e) (he : SndE M xr T n b B e)
    (h : matE M sc (.lc kk t u it c e) (.ListComp pe [⟨tg, pi, ifs, a⟩] scope pos) = true) : M.cm = true ∧ a = 0 ∧ LcOk X xr B Wx T n b t u it c e pe tg pi ifs scope (ownOf M.N t) := by
  simp only [matE, Bool.and_eq_true, decide_eq_true_eq, Bool.not_eq_true'] at h
  obtain ⟨⟨⟨⟨⟨⟨⟨h0, hn⟩, h1⟩, h2⟩, h3⟩, h4⟩, h5⟩, h6⟩ := h
  obtain ⟨hcm, h0⟩ := h0
  refine ⟨hcm, h0, hit X Wx sc tg pi k h4, ?_, fun s H C cl fp => ?_, fun s H C cl fp => ?_, fun s H C cl fp => ?_, noset h1, own_mapT h3, ?_⟩
  · rw [k.hN, k.hs]; exact blkOk_by h2
  · exact pg_T (X := X.blk s H scope (compEnvC scope cl C X.env) fp) (fun _ => k.clm hcm) k.hN k.nd (fun x hx => blk_sto s H C cl fp hx) h3
  · have kb := blk_ok (scope := scope) k hcm s H C cl fp
    cases c with
    | none =>
      cases ifs with
      | cons _ _ => simp [matIfs] at h5
      | nil =>
        refine PTs.weak pts_nil fun σ H Q q => ?_
        obtain ⟨m, F, env, hq, S, q⟩ := q
        obtain ⟨j, ej, q⟩ := q m F H (.refl ..) S
        cases ej
        exact q
    | some ce =>
      rcases ifs with _ | ⟨p, _ | ⟨p2, ps⟩⟩ <;> try (simp [matIfs] at h5; done)
      simp only [matIfs, Bool.and_eq_true] at h5
      refine (pts_one ((hc ce rfl _ _ _ p kb h5.1).pt h5.2)).weak fun σ H Q q => ?_
      obtain ⟨m, F, env, hq, S, q⟩ := q
      simp only [evOe] at q
      refine ⟨m, F, env, hq, S, q.bind.mono fun w h1 m1 F1 H1 x1 S1 q => ?_⟩
      obtain ⟨j, ej, q2⟩ := q m1 F1 H1 (.refl ..) S1
      clear q
      unfold boolO at ej
      split at ej
      · rename_i e2; cases e2
      · rename_i e2; cases e2; cases ej; exact ⟨_, rfl, q2⟩
      · cases ej
  · exact (he _ _ _ pe (blk_ok (scope := scope) k hcm s H C cl fp) h6).pe
  · intro z; rw [z] at hn; simp at hn
theorem lc_ev {K : PySem.W.Frag} {Wx : WX} {kk : Nat} {t : List Nat} {u : Bool} {it : It} {c : Oe} {e : E} {σ : L2.St} {H : Hp} {Q : VK} (hx : B.ex = none) (hne : t ≠ []) (q : tE K xr B Wx (evE b (callN T n) (.lc kk t u it c e)) σ H Q) :
    tLc (tI K xr B Wx (evIt b (callN T n) it)) (gT K t u) (tO K xr B WF (evOe b (callN T n) c)) (tE K xr B WF (evE b (callN T n) e)) t σ H Q := by
  refine lc_read (k := kk) hx hne ?_
  simp only [tE, evE] at q
  exact q
theorem snd_lc {kk : Nat} {t : List Nat} {u : Bool} {it : It} {c : Oe} {e : E} (hit : SndIt M xr T n b B it) (hc : ∀ e, c = .some e → SndE M xr T n b B e) (he : SndE M xr T n b B e) : SndE M xr T n b B (.lc kk t u it c e) := by
  intro X Wx sc p k h
  cases p <;> try (simp only [matE, Bool.false_eq_true] at h; done)
  rename_i pe gs scope pos
  rcases gs with _ | ⟨⟨tg, pi, ifs, a⟩, _ | ⟨g2, gs⟩⟩ <;> try (simp [matE] at h; done)
  obtain ⟨hcm, rfl, L⟩ := lc_ok k hit hc he h
  refine SE.of_plain ((pe_lc (k.clm hcm) k.nd L.hi L.ok L.hg L.ht L.he L.hs).weak fun σ H Q q => ?_) (fun _ => rfl) rfl
  rw [L.hm]
  exact lc_ev (k.noex hcm) L.hne q

mutual
theorem sndE (hb : b ∈ B.c) (hB : ∀ c ∈ B.c, c ≤ b) : ∀ e : E, SndE M xr T n b B e
  | .bad => snd_bad
  | .dnew => snd_dnew
  | .dnewI => snd_dnewI
  | .call0 f => snd_call0 hb hB
  | .glb i => snd_glb i
  | .glbS z => snd_glbS z
  | .exis i cs => snd_exis i cs
  | .exfld i js => snd_exfld i js
  | .trg t a => snd_trg (sndE hb hB a)
  | .isa c a => snd_isa (sndE hb hB a)
  | .dlg kvs k d => snd_dlg (sndE hb hB k) (sndE hb hB d)
  | .var i => snd_var i
  | .lit c => snd_lit c
  | .tup es => snd_tup (sndEs hb hB es)
  | .lst es => snd_lst (sndEs hb hB es)
  | .lstM es => snd_lstM (sndEs hb hB es)
  | .lsw es => snd_lsw (sndEs hb hB es)
  | .bin o x y => snd_bin (sndE hb hB x) (sndE hb hB y)
  | .binM o x y => snd_binM (sndE hb hB x) (sndE hb hB y)
  | .neg x => snd_neg (sndE hb hB x)
  | .nt x => snd_nt (sndE hb hB x)
  | .cmp o x y => snd_cmp (sndE hb hB x) (sndE hb hB y)
  | .isN x => snd_isN (sndE hb hB x)
  | .isB n k x => snd_isB (sndE hb hB x)
  | .notN x => snd_notN (sndE hb hB x)
  | .cmp2 o p x y z => snd_cmp2 (sndE hb hB x) (sndE hb hB y) (sndE hb hB z)
  | .one x => snd_one (sndE hb hB x)
  | .and x y => snd_and (sndE hb hB x) (sndE hb hB y)
  | .or x y => snd_or (sndE hb hB x) (sndE hb hB y)
  | .ife c x y => snd_ife (sndE hb hB c) (sndE hb hB x) (sndE hb hB y)
  | .idx x i => snd_idx (sndE hb hB x) (sndE hb hB i)
  | .slc x lo hi => snd_slc (sndE hb hB x) (sndOe hb hB lo) (sndOe hb hB hi)
  | .rev x => snd_rev (sndE hb hB x)
  | .blt f es => snd_blt (sndEs hb hB es)
  | .mth f o es => snd_mth (sndE hb hB o) (sndEs hb hB es)
  | .call f es => snd_call hb hB (sndEs hb hB es)
  | .sset x => snd_sset (sndE hb hB x)
  | .lc k t u it c e => snd_lc (sndIt hb hB it) (sndOe hb hB c) (sndE hb hB e)
theorem sndEs (hb : b ∈ B.c) (hB : ∀ c ∈ B.c, c ≤ b) : ∀ es : Es, SndEs M xr T n b B es
  | .nil => snd_nil
  | .cons e es => snd_cons (sndE hb hB e) (sndEs hb hB es)
theorem sndOe (hb : b ∈ B.c) (hB : ∀ c ∈ B.c, c ≤ b) : ∀ (o : Oe) (e : E), o = .some e → SndE M xr T n b B e
  | .none, _, h => by cases h
  | .some x, e, h => by cases h; exact sndE hb hB x
theorem sndIt (hb : b ∈ B.c) (hB : ∀ c ∈ B.c, c ≤ b) : ∀ it : It, SndIt M xr T n b B it
  | .e a => snd_it_e (sndE hb hB a)
  | .rg1 a => snd_rg1 (sndE hb hB a)
  | .rg2 a c => snd_rg2 (sndE hb hB a) (sndE hb hB c)
  | .rgd a c => snd_rgd (sndE hb hB a) (sndE hb hB c)
end
end
end Ev

/-! EvL: statements (matS, sndS). -/
namespace Ev
open PySem PySem.Spec L2
variable [Wd]

def notLC : Expr → Bool
  | .ListComp _ _ _ _ => false
  | .SetComp _ _ _ _ => false
  | .DictComp _ _ _ _ _ => false
  | _ => true
def isName : Expr → Bool
  | .Name _ _ => true
  | _ => false
def notTup : Expr → Bool
  | .Tuple _ _ _ => false
  | _ => true
/-- a comprehension that is stored in its own way -/
def swaps (sc : Scope) (tg p : Expr) : Bool := match p, tg with
  | .ListComp _ _ scope pos, .Name y py => (match sc.kind with | .function => true | _ => false) && decide (sc.names.lookup y = some .local) && (py.line == pos.line) && !(scope.names.any fun (n, k) => n == y && (k == .local || k == .cell))
  | _, _ => false
def swaps0 (sc : Scope) (tg p : Expr) : Bool := match p, tg with
  | .ListComp _ _ scope pos, .Name y py => (sc.kind == .function && sc.names.lookup y == some .local && py.line == pos.line && !(scope.names.any fun (n, k) => n == y && (k == .local || k == .cell)))
  | _, _ => false

def subOf : Expr → Option (Expr × Expr)
  | .Subscript po pi _ => some (po, pi)
  | _ => none
/-- an own class without fields -/
def clsNo (M : ME) (c : Nat) (x : Str) : Bool := match M.cls[c]? with
  | some d => decide (d.nm = x) && d.own && d.fl.isEmpty
  | none => false
def raiseOf : Expr → Option Str
  | .Call (.Name x _) [] [] _ => some x
  | _ => none
def raisOf : Stmt → Option Str
  | .Raise (some p) none _ => raiseOf p
  | _ => none
def Es.isNil : Es → Bool
  | .nil => true
  | _ => false
def hdOf : ExceptHandler → Option (Expr × Option Str × List Stmt)
  | .ExceptHandler (some hx) n ps _ => some (hx, n, ps)
  | _ => none
def tryOf : Stmt → Option (List Stmt × Str × Option Str × List Stmt)
  | .Try pb [h] [] [] _ => match hdOf h with
    | some (.Name z _, n, p :: ps) => some (pb, z, n, p :: ps)
    | _ => none
  | _ => none
theorem tryOf_ok {q : Stmt} {pb ps : List Stmt} {z : Str} {n : Option Str} (h : tryOf q = some (pb, z, n, ps)) : ∃ (pos pos2 pz : Pos) (p : Stmt) (r : List Stmt), q = .Try pb [.ExceptHandler (some (.Name z pz)) n (p :: r) pos2] [] [] pos ∧ ps = p :: r := by
  cases q <;> try (simp [tryOf] at h; done)
  rename_i pb' hs oe fin pos
  rcases hs with _ | ⟨hd, _ | ⟨h2, hs⟩⟩ <;> try (simp [tryOf] at h; done)
  cases oe <;> try (simp [tryOf] at h; done)
  cases fin <;> try (simp [tryOf] at h; done)
  obtain ⟨hx, n0, qs, pos2⟩ := hd
  cases hx with
  | none => simp [tryOf, hdOf] at h
  | some hx =>
    cases hx <;> try (simp [tryOf, hdOf] at h; done)
    cases qs with
    | nil => simp [tryOf, hdOf] at h
    | cons p qs =>
      simp only [tryOf, hdOf, Option.some.injEq, Prod.mk.injEq] at h
      obtain ⟨rfl, rfl, rfl, rfl⟩ := h
      exact ⟨_, _, _, _, _, rfl, rfl⟩
theorem raisOf_ok {q : Stmt} {x : Str} (h : raisOf q = some x) : ∃ pos p1 p2, q = .Raise (some (.Call (.Name x p1) [] [] p2)) none pos := by
  cases q <;> try (simp [raisOf] at h; done)
  rename_i p fr pos
  cases p <;> try (simp [raisOf] at h; done)
  rename_i p
  cases fr <;> try (simp [raisOf] at h; done)
  simp only [raisOf] at h
  cases p <;> try (simp [raiseOf] at h; done)
  rename_i pf ps kw pos2
  cases pf <;> try (simp [raiseOf] at h; done)
  cases ps <;> try (simp [raiseOf] at h; done)
  cases kw <;> simp only [raiseOf, reduceCtorEq, Option.some.injEq] at h
  subst h
  exact ⟨_, _, _, rfl⟩
def clsOwn (M : ME) (z : Str) (cs : List Nat) : Bool := M.cls.any fun d => decide (d.nm = z) && decide (d.subs = cs) && d.own
/-- the name of an except clause -/
def nmOk (M : ME) (sc : Scope) (kp : List Nat) : Option Nat → Option Str → Bool
  | none, none => true
  | some i, some y => isAt M.N i y && decide (sc.names.lookup y = some .local) && !kp.contains i
  | _, _ => false
def appOf : Expr → Option (Expr × Str × Pos × Expr × Pos)
  | .Call (.Attribute po x ap) [p] [] cp => some (po, x, ap, p, cp)
  | _ => none
mutual
def matS (M : ME) (kp : List Nat) (sc : Scope) : S → Stmt → Bool
  | .bad, _ => true
  | .asg t u e, .Assign [tg] p _ => (M.cm || !u) && t.all (fun i => decide (M.xs ≠ some i)) && matT M.N (isSto sc) t u tg && t.all (fun i => !kp.contains i) && matE M sc e p && (isName tg || notTup p) && (swaps sc tg p || notLC p || !swaps0 sc tg p)
  | .set o i e, .Assign [tg] p _ => match subOf tg with
    | some (po, pi) => notSlice pi && matE M sc o po && matE M sc i pi && matE M sc e p
    | none => false
  | .app o e, .Expr q _ => match appOf q with
    | some (po, x, ap, p, cp) => decide (x = "append") && notCall0 po && (ap.endLine == cp.line) && notStar p && matE M sc o po && matE M sc e p
    | none => false
  | .expr e, .Expr p _ => notLC p && matE M sc e p
  | .ret e, .Return (some p) _ => matE M sc e p
  | .retN, .Return none _ => true
  | .ifs c a b, .If p pa pb _ => notIf p && matE M sc c p && matSs M kp sc a pa && matSs M kp sc b pb
  | .forS t u it s, .For tg p ps [] _ => M.cm && matT M.N (isSto sc) t u tg && t.all (fun i => !kp.contains i) && notSet p && matIt M sc it p && matSs M kp sc s ps
  | .whl _ c s, .While p ps [] _ => notIf p && matE M sc c p && matSs M kp sc s ps
  | .pass, .Pass _ => true
  | .brk, .Break _ => true
  | .cnt, .Continue _ => true
  | .rais c es, p => M.cm && Es.isNil es && (match raisOf p with
    | some x => clsNo M c x && isGl sc x && plainN x
    | none => false)
  | .tryS cs nm kp2 x y, p => M.cm && kp.all (fun i => kp2.contains i) && (match tryOf p with
    | some (pb, z, n, ps) => clsOwn M z cs && isGl sc z && plainN z && nmOk M sc kp nm n && matSs M kp2 sc x pb && matSs { M with xs := nm, cm := false } kp sc y ps
    | none => false)
  | _, _ => false
def matSs (M : ME) (kp : List Nat) (sc : Scope) : Ss → List Stmt → Bool
  | .nil, [] => true
  | .cons (.frz i) ss, ps => matSs M kp sc ss ps
  | .cons s ss, p :: ps => matS M kp sc s p && matSs M kp sc ss ps
  | _, _ => false
end

def Kp (kp : List Nat) (σ σ' : L2.St) : Prop := σ'.length = σ.length ∧ ∀ i ∈ kp, σ'[i]? = σ[i]?
theorem Kp.refl (kp : List Nat) (σ : L2.St) : Kp kp σ σ := ⟨rfl, fun _ _ => rfl⟩
theorem Kp.trans {kp : List Nat} {a b c : L2.St} (h : Kp kp a b) (g : Kp kp b c) : Kp kp a c := ⟨g.1.trans h.1, fun i hi => (g.2 i hi).trans (h.2 i hi)⟩
section
variable {K : PySem.W.Frag} {xr : XRel}
def PostS (K : PySem.W.Frag) (xr : XRel) (B : BB) (Wx : WX) (kp : List Nat) (m : List Addr) (F H : Hp) (σ : L2.St) (r : R Fl) (D : Ends) : Prop := match r with
  | .ok (.nx env') h' => ∀ m' F' H' σ', Ext m F H m' F' H' → SR K B m' F' env' h' σ' H' → Kp kp σ σ' → D.nx σ' H'
  | .ok (.bk env') h' => ∀ m' F' H' σ', Ext m F H m' F' H' → SR K B m' F' env' h' σ' H' → Kp kp σ σ' → D.bk σ' H'
  | .ok (.ct env') h' => ∀ m' F' H' σ', Ext m F H m' F' H' → SR K B m' F' env' h' σ' H' → Kp kp σ σ' → D.ct σ' H'
  | .ok (.rt w) h' => ∀ m' F' H' v, Ext m F H m' F' H' → HR K B.c m' F' h' H' → WR K m' F' v w → D.rt v H'
  | .ex c ds h' => ∀ m' F' H' cls dx σ', Ext m F H m' F' H' → HR K B.c m' F' h' H' → xr c ds cls dx F' H' → Kp kp σ σ' → Wx cls dx σ' H'
  | .bad => False
def tS (K : PySem.W.Frag) (xr : XRel) (B : BB) (Wx : WX) (kp : List Nat) (f : Vars → Hq → R Fl) : TS := fun D σ H => ∃ m F env h, SR K B m F env h σ H ∧ PostS K xr B Wx kp m F H σ (f env h) D
variable {B : BB} {Wx : WX} {kp : List Nat} {m m' : List Addr} {F F' H H' : Hp} {env : Vars} {h : Hq} {σ σ' : L2.St} {D : Ends}
theorem PostS.shift {r : R Fl} (p : PostS K xr B Wx kp m F H σ r D) (x : Ext m F H m' F' H') (k : Kp kp σ σ') : PostS K xr B Wx kp m' F' H' σ' r D := by
  cases r with
  | ok f h' =>
    cases f with
    | nx env => exact fun m2 F2 H2 σ2 e s q => p m2 F2 H2 σ2 (x.trans e) s (k.trans q)
    | bk env => exact fun m2 F2 H2 σ2 e s q => p m2 F2 H2 σ2 (x.trans e) s (k.trans q)
    | ct env => exact fun m2 F2 H2 σ2 e s q => p m2 F2 H2 σ2 (x.trans e) s (k.trans q)
    | rt w => exact fun m2 F2 H2 v e s q => p m2 F2 H2 v (x.trans e) s q
  | ex c ds h' => exact fun m2 F2 H2 cls dx σ2 e s y q => p m2 F2 H2 cls dx σ2 (x.trans e) s y (k.trans q)
  | bad => exact p
/-- an expression, then the rest of the statement -/
theorem PostS.bindE {α : Type} {r : R α} {f : α → Hq → R Fl} (p : PostS K xr B Wx kp m F H σ (r.bind f) D) : PostG K xr B Wx m F env σ H r (fun a h1 m1 F1 H1 => PostS K xr B Wx kp m1 F1 H1 σ (f a h1) D) := by
  cases r with
  | ok a h1 => exact fun m1 F1 H1 e s => PostS.shift p e (.refl ..)
  | ex c ds h1 => exact fun m1 F1 H1 cls dx e s y => p m1 F1 H1 cls dx σ e s y (.refl ..)
  | bad => exact p
theorem PostS.nx {env' : Vars} (p : PostS K xr B Wx kp m F H σ (.ok (.nx env') h) D) (s : SR K B m F env' h σ' H) (k : Kp kp σ σ') : D.nx σ' H := p m F H σ' (.refl ..) s k
end

theorem kp_set {kp : List Nat} {σ : L2.St} {i : Nat} {y : Option V} (h : kp.contains i = false) : Kp kp σ (σ.set i y) := by
  refine ⟨by simp, fun j hj => ?_⟩
  rw [List.getElem?_set_ne]
  intro e
  subst e
  rw [List.contains_iff_mem.mpr hj] at h
  cases h
theorem kp_sAll {kp : List Nat} : ∀ {t : List Nat} {xs : List V} {σ : L2.St}, t.all (fun i => !kp.contains i) = true → Kp kp σ (sAll t xs σ)
  | [], _, _, _ => by simp only [sAll]; exact .refl _ _
  | _ :: _, [], _, _ => by simp only [sAll]; exact .refl _ _
  | i :: is, x :: xs, σ, h => by
    simp only [sAll]
    simp only [List.all_cons, Bool.and_eq_true, Bool.not_eq_true'] at h
    exact (kp_set h.1).trans (kp_sAll h.2)
section
variable {K : PySem.W.Frag} {xr : XRel} {B : BB} {Wx : WX} {kp : List Nat} {m : List Addr} {F H : Hp} {env env' : Vars} {h : Hq} {σ : L2.St}
/-- a value comes to its slots -/
theorem bind_asg {t : List Nat} (hx : ∀ e, B.ex = some e → e.i ∉ t) {u : Bool} {w : W} {x : V} {Q : L2.St → Hp → Prop} (e : bindT t u w env = some env') (r : WR K m F x w) (s : SR K B m F env h σ H) (hk : t.all (fun i => !kp.contains i) = true)
    (q : ∀ σ2, SR K B m F env' h σ2 H → Kp kp σ σ2 → Q σ2 H) : gT K t u x σ H Q := by
  unfold bindT at e
  split at e
  · split at e
    · rename_i i
      cases e
      exact q _ (s.setv (fun e he z => hx e he (by rw [z]; exact List.mem_cons_self)) r) (by simp only [List.all_cons, List.all_nil, Bool.and_true, Bool.not_eq_true'] at hk; exact kp_set hk)
    · cases e
  · split at e
    · rename_i xs
      split at e
      · rename_i hl
        cases e
        obtain ⟨a, us, rfl, sq, d⟩ : ∃ a us, x = .ref a ∧ SqT K F a us ∧ DpAll K F us xs := by
          have r : Dp K F x (.tuple xs) := r
          cases r with
          | tup h1 h2 => exact ⟨_, _, rfl, h1, h2⟩
        have hl' : us.length = t.length := by rw [d.length]; exact hl
        exact .inl ⟨a, us, rfl, s.hr.sub.sqt sq, hl', gNames_ok hl' (q _ (SR.setAll hx s (WRs.ofD d)) (kp_sAll hk))⟩
      · cases e
    · rename_i xs
      split at e
      · rename_i hl
        cases e
        obtain ⟨a, us, rfl, sq, d⟩ : ∃ a us, x = .ref a ∧ SqL K F a us ∧ DpAll K F us xs := by
          have r : Dp K F x (.list xs) := r
          cases r with
          | lst h1 h2 => exact ⟨_, _, rfl, h1, h2⟩
        have hl' : us.length = t.length := by rw [d.length]; exact hl
        exact .inr ⟨a, us, rfl, s.hr.sub.sql sq, hl', gNames_ok hl' (q _ (SR.setAll hx s (WRs.ofD d)) (kp_sAll hk))⟩
      · cases e
    · cases e
end

section
variable {M : ME} {xr : XRel} {T : List FD} {n b : Nat} {B : BB}
/-- a def's body: what leaves it -/
structure XOk2 (X : Cx) (Wx : WX) (M : ME) (xr : XRel) (T : List FD) (n : Nat) (B : BB) (sc : Scope) : Prop extends XOk X Wx M xr T n B sc where
  po : PassesOwn (model X.prog X.w) X.A X.env X.xe
  fn : ∀ x, X.fn x = true
  kd : sc.kind = .function
  stk : X.stack = X.env :: X.outer
  frm : X.env.frame = some X.env.locals
def SndS (M : ME) (xr : XRel) (T : List FD) (n b : Nat) (B : BB) (s : S) : Prop := ∀ (X : Cx) (Wx : WX) (sc : Scope) (kp : List Nat) (p : Stmt), XOk2 X Wx M xr T n B sc → matS M kp sc s p = true → PS X p (tS X.K xr B Wx kp (evS b (callN T n) s))
def SndSs (M : ME) (xr : XRel) (T : List FD) (n b : Nat) (B : BB) (ss : Ss) : Prop := ∀ (X : Cx) (Wx : WX) (sc : Scope) (kp : List Nat) (ps : List Stmt), XOk2 X Wx M xr T n B sc → matSs M kp sc ss ps = true → PSs X ps (tS X.K xr B Wx kp (evSs b (callN T n) ss))

theorem bindS {K : PySem.W.Frag} {Wx : WX} {kp : List Nat} {ra : Vars → Hq → R W} {g : Vars → W → Hq → R Fl} {σ : L2.St} {H : Hp} {D : Ends} {Q' : VK} (p : tS K xr B Wx kp (fun env h => (ra env h).bind (g env)) D σ H)
    (i : ∀ m F env h H w v, SR K B m F env h σ H → WR K m F v w → PostS K xr B Wx kp m F H σ (g env w h) D → Q' v H) : tE K xr B Wx ra σ H Q' := by
  obtain ⟨m, F, env, h, S, p⟩ := p
  exact ⟨m, F, env, h, S, (p.bindE (env := env)).mono fun w h1 m1 F1 H1 x1 S1 p v rv => i m1 F1 env h1 H1 w v S1 rv p⟩

theorem swap_no {sc : Scope} {tg p : Expr} {l : Nat} {env : Env} (hs : env.scope = sc) (h : notLC p = true ∨ swaps0 sc tg p = false) (hk : sc.kind = .function) (hp : ∀ g k s q, p ≠ .SetComp g k s q) (hp2 : ∀ g g' k s q, p ≠ .DictComp g g' k s q) : swapsWithSole [tg] p l env = pure false := by
  show swapsWith p (some tg) l env = pure false
  have bk : env.blockKind = .function := by unfold Env.blockKind; rw [hs, hk]; rfl
  cases p <;> try rfl
  case SetComp => exact absurd rfl (hp _ _ _ _)
  case DictComp => exact absurd rfl (hp2 _ _ _ _ _)
  case ListComp g k s q =>
    rcases h with h | h
    · simp [notLC] at h
    · cases tg <;> try rfl
      rename_i y py
      simp only [swaps0] at h
      unfold swapsWith
      simp only [bk]
      have ek : env.kindOf y = sc.names.lookup y := by unfold Env.kindOf; rw [hs]
      rw [ek]
      rw [hk] at h
      show pure _ = pure false
      exact congrArg pure h
theorem mat_noset {sc : Scope} {e : E} {p : Expr} (h : matE M sc e p = true) : (∀ g k s q, p ≠ .SetComp g k s q) ∧ ∀ g g' k s q, p ≠ .DictComp g g' k s q := by
  refine ⟨fun g k s q z => ?_, fun g g' k s q z => ?_⟩
  · subst z; cases e <;> simp [matE, noSC] at h
  · subst z; cases e <;> simp [matE, noSC] at h
end
end Ev

/-! EvM: every statement (sndS). -/
namespace Ev
open PySem PySem.Spec PyProof.Rows L2
variable [Wd]
section
variable {M : ME} {xr : XRel} {T : List FD} {n b : Nat} {B : BB} (hb : b ∈ B.c) (hB : ∀ c ∈ B.c, c ≤ b)
theorem sto_all {X : Cx} {Wx : WX} {sc : Scope} (k : XOk2 X Wx M xr T n B sc) {x : Str} (h : isSto sc x = true) : Loc X.env.scope x ∧ (X.fn x = true ∨ X.env.scope.names.lookup x = some .local) := by
  rw [k.hs]
  exact ⟨sto_of h, .inl (k.fn x)⟩
omit hb hB in
/-- o[i] = v: a list, a dict -/
def rSetG (K : PySem.W.Frag) : V → V → V → Hp → (Hp → Prop) → Prop := fun o i v H Q => rSetL o i v H Q ∨ (∃ a vs k, o = .ref a ∧ i = .int k ∧ H a = some (.dK vs) ∧ vs.length ≤ 1000000 ∧ vs.length < 1000000 ∧ Q (upd H a (.dK (putK vs (.inl k) v)))) ∨ ∃ a es kvs F d nk y b, o = .ref a ∧ i = .ref b ∧ HpLe F H ∧ H a = some (dctO a es) ∧ DK K F kvs es ∧ (es.map (·.1)).Nodup ∧ (a == sysModules) = false ∧ kvs.length < 1000000 ∧
  Dp K F (.ref b) d ∧ nkey d = some nk ∧ d.depth ≤ 8 ∧ Dp K F v y ∧ ∀ es', DK K F (dput kvs d y) es' → (es'.map (·.1)).Nodup → Q (upd H a (dctO a es'))
omit hb hB in
theorem set_G {X : Cx} (hw : X.w = Wd.w) (hu : X.A.units + 200 < cLine) : PSet X (rSetG X.K) := by
  intro pins s σ H o i v ov iv u Q I ro ri rv hq
  rcases hq with hq | ⟨a, vs, k, rfl, rfl, eH, _, hl, q⟩ | ⟨a, es, kvs, F, d, nk, y, b, rfl, rfl, le, eH, dk, nd, hz, hl, di, ek, hd, dv, q⟩
  · exact L2.set_list pins s σ H o i v ov iv u Q I ro ri rv hq
  · cases ro
    have szE := sizeLine_eq
    exact d_setItem (by show X.A.units + 1 < cLine; omega) I (DPut.k (k := .inl k) eH (by omega)) ri rv fun s' I' => ⟨_, I', q⟩
  · cases ro
    cases ri
    have dd := dk_of hw I le eH dk nd
    have len := dk.length
    have szE := sizeLine_eq
    refine wpAny_setItem_heap (hsz := by omega) (dk_room hu) (dk_is I le ek hd di) dd fun h' dd' hs => ?_
    obtain ⟨ob, _, _, hob, _⟩ := id dd'
    refine ⟨_, d_write I (by rw [eH]; exact True.intro) hs ⟨ob, hob⟩ (dk_ok hw dd'), q _ (dk.put ek hd di rv dv) ?_⟩
    obtain ⟨_, _, _, _, _, _, _, _, n⟩ := dd'
    exact n
theorem assignOne {tg : Expr} {env : Env} (h : ∀ e p, tg ≠ .Starred e p) : (assignEach [tg] env).map (·.2) = [assign tg env] := by
  cases tg <;> first | rfl | exact absurd rfl (h _ _)
include hb hB
theorem snd_asg {t : List Nat} {u : Bool} {e : E} : SndS M xr T n b B (.asg t u e) := by
  intro X Wx sc kp p k h
  cases p <;> try (simp only [matS, Bool.false_eq_true] at h; done)
  rename_i tgs p pos
  rcases tgs with _ | ⟨tg, _ | ⟨tg2, tgs⟩⟩ <;> try (simp [matS] at h; done)
  simp only [matS, Bool.and_eq_true] at h
  obtain ⟨⟨⟨⟨⟨⟨hcu, hxs⟩, h1⟩, h2⟩, h3⟩, h4⟩, h5⟩ := h
  have hx : ∀ e, B.ex = some e → e.i ∉ t := fun e he hi => by
    have := List.all_eq_true.mp hxs _ hi
    rw [decide_eq_true_eq, k.xs, he] at this
    exact this rfl
  have hg : PG X tg (gT X.K t u) := pg_T (fun z => k.clm (by rw [z] at hcu; simpa using hcu)) k.hN k.nd (fun x hx => sto_all k hx) h1
  have rd : ∀ {D σ H}, tS X.K xr B Wx kp (evS b (callN T n) (.asg t u e)) D σ H → tAsg (tE X.K xr B Wx (evE b (callN T n) e)) (gT X.K t u) D σ H := fun {D σ H} q => by
    simp only [tS, evS] at q
    refine bindS (ra := evE b (callN T n) e) q fun m F env hq H w v S r q => ?_
    split at q
    · rename_i env2 hb2
      exact bind_asg hx hb2 r S h2 fun σ2 S2 k2 => PostS.nx q S2 k2
    · exact q.elim
  by_cases hw : swaps sc tg p = true
  · -- stored as it is made
    cases p <;> try (simp [swaps] at hw; done)
    rename_i pe gs scope pos2
    cases tg <;> try (simp [swaps] at hw; done)
    rename_i y py
    cases e <;> try (simp [matE, noSC] at h3; done)
    rename_i kk t2 u2 it c e
    rcases gs with _ | ⟨⟨tg2, pi, ifs, a⟩, _ | ⟨g2, gs⟩⟩ <;> try (simp [matE] at h3; done)
    obtain ⟨hcm, rfl, L⟩ := lc_ok k.toXOk (sndIt hb hB it) (sndOe hb hB c) (sndE hb hB e) h3
    simp only [swaps, Bool.and_eq_true, decide_eq_true_eq, Bool.not_eq_true'] at hw
    obtain ⟨⟨⟨w1, w2⟩, w3⟩, w4⟩ := hw
    obtain ⟨i, rfl, rfl, hi⟩ : ∃ i, t = [i] ∧ u = false ∧ M.N[i]? = some y := by
      unfold matT at h1
      split at h1
      · rename_i i x pos heq
        cases heq
        simp only [Bool.and_eq_true, isAt, decide_eq_true_eq] at h1
        exact ⟨i, rfl, rfl, h1.1⟩
      · rename_i heq; cases heq
      · cases h1
    have hl : X.env.scope.names.lookup y = some .local := by rw [k.hs]; exact w2
    refine (ps_setLc (i := i) (k.clm hcm) k.nd (by rw [k.hN]; exact hi) hl (sw_true (by rw [k.hs]; exact k.kd) hl w3 w4) L.hi L.ok L.hg L.ht L.he L.hs).weak fun D σ H q => ?_
    have q' := rd q
    unfold tAsg at q' ⊢
    rw [L.hm]
    exact lc_ev (k.noex hcm) L.hne q'
  · have ns := mat_noset h3
    refine (ps_asg (sndE hb hB e X Wx sc p k.toXOk h3).pe hg ?_ ?_ ?_).weak fun D σ H q => rd q
    · refine swap_no k.hs ?_ k.kd ns.1 ns.2
      simp only [Bool.or_eq_true, Bool.not_eq_true'] at h5
      rcases h5 with (h5 | h5) | h5
      · exact absurd h5 hw
      · exact .inl h5
      · exact .inr h5
    · have hnl : ∀ ps q, tg ≠ .List ps q := fun ps q z => by
        subst z
        cases u <;> rcases t with _ | ⟨i, _ | ⟨j, t⟩⟩ <;> simp [matT] at h1
      unfold swappedStores
      simp only [Bool.or_eq_true] at h4
      rcases h4 with h4 | h4
      · cases tg <;> first | rfl | (simp [isName] at h4)
      · cases tg
        case List => exact absurd rfl (hnl _ _)
        case Tuple => cases p <;> first | rfl | (simp [notTup] at h4)
        all_goals rfl
    · exact assignOne fun a b z => by subst z; simp [matT] at h1
theorem snd_set {o i e : E} : SndS M xr T n b B (.set o i e) := by
  intro X Wx sc kp p k h
  cases p <;> try (simp only [matS, Bool.false_eq_true] at h; done)
  rename_i tgs p pos
  rcases tgs with _ | ⟨tg, _ | ⟨tg2, tgs⟩⟩ <;> try (simp [matS] at h; done)
  simp only [matS] at h
  cases tg <;> try (simp [subOf] at h; done)
  rename_i po pi pos2
  simp only [subOf, Bool.and_eq_true] at h
  obtain ⟨⟨⟨h1, h2⟩, h3⟩, h4⟩ := h
  have ns := mat_noset h4
  have ha : ∀ v, assign (.Subscript po pi pos2) X.env v = (do
      let ov ← holding [v] (eval po X.env)
      let iv ← holding [v, ov] (eval pi X.env)
      standAt pos2
      holding [v, ov, iv] (setItem ov iv v)
      release [v, ov, iv] []) := by
    intro v
    cases pi <;> first | rfl | (simp [notSlice] at h1)
  refine (ps_asg (sndE hb hB e X Wx sc p k.toXOk h4).pe (pg_sub (sndE hb hB o X Wx sc po k.toXOk h2).pe (sndE hb hB i X Wx sc pi k.toXOk h3).pe (set_G k.hw k.hu) ha) (swap_no k.hs ?_ k.kd ns.1 ns.2) ?_ rfl).weak fun D σ H q => ?_
  · cases p <;> first | exact .inl rfl | exact .inr rfl
  · rfl
  · simp only [tS, evS] at q
    obtain ⟨m, F, env, h, S, p⟩ := q
    refine ⟨m, F, env, h, S, (p.bindE (env := env)).mono fun w h1 m1 F1 H1 x1 S1 p1 v rv => ⟨m1, F1, env, h1, S1, (p1.bindE (env := env)).mono fun w2 h2 m2 F2 H2 x2 S2 p2 v2 rv2 => ⟨m2, F2, env, h2, S2, (p2.bindE (env := env)).mono fun w3 h3 m3 F3 H3 x3 S3 p3 v3 rv3 => ?_⟩⟩⟩
    clear p p1 p2
    replace rv := wr_mono (x2.trans x3).ml (x2.trans x3).sub rv
    replace rv2 := wr_mono x3.ml x3.sub rv2
    unfold evSet at p3
    split at p3
    · rename_i nn kk
      obtain ⟨a, em, rfl⟩ := rv2
      have rv3 : Dp X.K F3 v3 (.int kk) := rv3
      cases rv3
      split at p3
      · rename_i xs eo
        obtain ⟨fa, vs, eH, dd⟩ := S3.hr.ob nn _ a eo em
        split at p3
        · rename_i j x ej
          have rv : Dp X.K F3 v x := rv
          refine .inl ⟨a, vs, kk, j, rfl, rfl, eH, by rw [dd.length]; exact ej, ?_⟩
          obtain ⟨r', e'⟩ := S3.hr.put (u := .lst (vs.set j v)) (o := .lst (xs.set j x)) em fa ⟨fa, _, upd_same, dd.set rv j⟩ (fun c _ _ k hk => by simp [refs] at hk)
          exact p3 _ _ _ _ e' (S3.ext r' e') (.refl ..)
        · exact p3.elim
      · rename_i ws eo
        obtain ⟨fa, vs, eH, dd⟩ := S3.hr.ob nn _ a eo em
        split at p3
        · rename_i j ej
          have go : (∀ c ∈ B.c, nn < c → ∀ k ∈ refs (.lsw (ws.set j w)), k < c) → PostS X.K xr B Wx kp m3 F3 H3 σ (.ok (.nx env) (h3.set nn (.lsw (ws.set j w)))) D → rSetG X.K (.ref a) (.int kk) v H3 fun H4 => D.nx σ H4 := fun hc p3 => by
            refine .inl ⟨a, vs, kk, j, rfl, rfl, eH, by rw [dd.length]; exact ej, ?_⟩
            obtain ⟨r', e'⟩ := S3.hr.put (u := .lst (vs.set j v)) (o := .lsw (ws.set j w)) em fa ⟨fa, _, upd_same, dd.set rv j⟩ hc
            exact p3 _ _ _ _ e' (S3.ext r' e') (.refl ..)
          have old : ∀ c ∈ B.c, nn < c → ∀ (w' : W), refsW w' = [] ∨ c ≤ b → (∀ q, w' = .l q → c ≤ nn) → ∀ k ∈ refs (.lsw (ws.set j w')), k < c := fun c hc hn w' _ h' k hk => by
            obtain ⟨_, c2⟩ := S3.hr.clo c hc
            simp only [refs, List.mem_flatMap] at hk
            obtain ⟨y, hy, hk⟩ := hk
            rcases List.mem_or_eq_of_mem_set hy with hy | rfl
            · exact c2 nn _ k hn eo (by simp only [refs, List.mem_flatMap]; exact ⟨y, hy, hk⟩)
            · cases y with
              | d _ => simp [refsW] at hk
              | x _ _ => simp [refsW] at hk
              | l q => exact absurd (h' q rfl) (by omega)
          cases w with
          | x _ _ => exact p3.elim
          | d x => exact go (fun c hc hn => old c hc hn _ (.inl rfl) (fun q z => nomatch z)) p3
          | l q =>
            simp only at p3
            split at p3
            · rename_i hle
              exact go (fun c hc hn => old c hc hn _ (.inr (hB c hc)) (fun q z => Nat.le_trans (hB c hc) hle)) p3
            · exact p3.elim
        · exact p3.elim
      · rename_i kvs eo
        obtain ⟨fa, vs, eH, di, hl⟩ := S3.hr.ob nn _ a eo em
        cases w with
        | l _ => exact p3.elim
        | x _ _ => exact p3.elim
        | d x =>
          simp only at p3
          split at p3
          · rename_i hlt
            have rv : Dp X.K F3 v x := rv
            have ln := di.length
            refine .inr (.inl ⟨a, vs, kk, rfl, rfl, eH, by omega, by omega, ?_⟩)
            have lput : (iput kvs kk x).length ≤ 1000000 := by
              unfold iput
              split
              · rw [List.length_map]; omega
              · rw [List.length_append]; simp; omega
            obtain ⟨r', e'⟩ := S3.hr.put (u := .dK (putK vs (.inl kk) v)) (o := .dki (iput kvs kk x)) em fa ⟨fa, _, upd_same, di.put kk rv, lput⟩ (fun c _ _ k hk => by simp [refs] at hk)
            exact p3 _ _ _ _ e' (S3.ext r' e') (.refl ..)
          · exact p3.elim
      · exact p3.elim
    · rename_i nn kk _
      obtain ⟨a, em, rfl⟩ := rv2
      have rv3 : Dp X.K F3 v3 kk := rv3
      split at p3
      · rename_i kvs eo
        obtain ⟨fa, es, eH, dk, nd, hz, hl⟩ := S3.hr.ob nn _ a eo em
        cases w with
        | l _ => exact p3.elim
        | x _ _ => exact p3.elim
        | d x =>
          simp only at p3
          split at p3
          · rename_i hk
            simp only [Bool.and_eq_true, decide_eq_true_eq] at hk
            obtain ⟨ks, nk, rfl, ek, hd⟩ := isKey_ok hk.1
            have rv : Dp X.K F3 v x := rv
            obtain ⟨b', rfl⟩ : ∃ b', v3 = .ref b' := by
              cases rv3 with
              | tup _ _ => exact ⟨_, rfl⟩
            refine .inr (.inr ⟨a, es, kvs, F3, .tuple ks, nk, x, b', rfl, rfl, S3.hr.sub, eH, dk, nd, hz, hk.2, rv3, ek, hd, rv, fun es' dk' nd' => ?_⟩)
            have lput : (dput kvs (.tuple ks) x).length ≤ 1000000 := by
              unfold dput
              split
              · rw [List.length_map]; omega
              · rw [List.length_append]; simp; omega
            obtain ⟨r', e'⟩ := S3.hr.put (u := dctO a es') (o := .dct (dput kvs (.tuple ks) x)) em fa ⟨fa, es', upd_same, dk', nd', hz, lput⟩ (fun c _ _ k hk => by simp [refs] at hk)
            exact p3 _ _ _ _ e' (S3.ext r' e') (.refl ..)
          · exact p3.elim
      · exact p3.elim
    · exact p3.elim
theorem snd_app {o e : E} : SndS M xr T n b B (.app o e) := by
  intro X Wx sc kp p k h
  cases p <;> try (simp only [matS, Bool.false_eq_true] at h; done)
  rename_i pe pos
  simp only [matS] at h
  cases pe <;> try (simp [appOf] at h; done)
  rename_i pf ps kw cp
  cases pf <;> try (simp [appOf] at h; done)
  rename_i po x ap
  rcases ps with _ | ⟨p, _ | ⟨p2, ps⟩⟩ <;> try (simp [appOf] at h; done)
  cases kw <;> try (simp [appOf] at h; done)
  simp only [appOf, Bool.and_eq_true, decide_eq_true_eq] at h
  obtain ⟨⟨⟨⟨⟨rfl, h0⟩, hl⟩, hn⟩, h1⟩, h2⟩ := h
  have a := (sndE hb hB o X Wx sc po k.toXOk h1).pe
  have c := (sndE hb hB e X Wx sc p k.toXOk h2).pe
  have hbase : attributeBase po "append" X.env (eval po X.env) = eval po X.env := by
    unfold attributeBase
    cases po <;> try rfl
    rename_i g as kws ps
    cases g <;> try rfl
    cases as <;> try rfl
    cases kws <;> try rfl
    simp [notCall0] at h0
  have hs := star1 (env := X.env) (ps := []) hn
  refine (ps_expr (pe_bm PySem.F.plainAttrs_list PySem.F.slot_list_append PySem.F.type_list_append mt_append a (pa_cons c pa_nil hs) hbase (by rw [hs]; rfl) hl hs rfl)).weak fun D σ H q => ?_
  simp only [tS, evS] at q
  obtain ⟨m, F, env, h, S, p0⟩ := q
  refine ⟨m, F, env, h, S, (p0.bindE (env := env)).mono fun w h1 m1 F1 H1 x1 S1 p1 v rv => ?_⟩
  clear p0
  split at p1
  · rename_i hrec
    unfold recvL at hrec
    split at hrec
    · rename_i nn
      obtain ⟨al, em, rfl⟩ := rv
      have ty : ∃ xs, SqL X.K H1 al xs := by
        split at hrec
        · rename_i eo
          obtain ⟨_, vs, eH, _⟩ := S1.hr.ob nn _ al eo em
          exact ⟨vs, .of eH⟩
        · rename_i eo
          obtain ⟨_, vs, eH, _⟩ := S1.hr.ob nn _ al eo em
          exact ⟨vs, .of eH⟩
        · cases hrec
      refine ⟨.inl ⟨rfl, ty⟩, m1, F1, env, h1, S1, (p1.bindE (env := env)).mono fun w2 h2 m2 F2 H2 x2 S2 p2 v2 rv2 => ?_⟩
      clear p1
      have em := x2.ml.get em
      simp only [evApp] at p2
      have szE := sz_eq
      split at p2
      · rename_i xs eo
        obtain ⟨fa, vs, eH, dd⟩ := S2.hr.ob nn _ al eo em
        split at p2
        · rename_i x
          split at p2
          · rename_i hlt
            have rv2 : Dp X.K F2 v2 x := rv2
            refine ⟨al, vs, v2, rfl, rfl, eH, by rw [dd.length]; omega, ?_⟩
            obtain ⟨r', e'⟩ := S2.hr.put (u := .lst (vs ++ [v2])) (o := .lst (xs ++ [x])) em fa ⟨fa, _, upd_same, dd.app (.cons rv2 .nil)⟩ (fun c _ _ k hk => by simp [refs] at hk)
            exact p2 _ _ _ _ e' (S2.ext r' e') (.refl ..)
          · exact p2.elim
        · exact p2.elim
      · rename_i ws eo
        obtain ⟨fa, vs, eH, dd⟩ := S2.hr.ob nn _ al eo em
        have go : ws.length < SZ → (∀ c ∈ B.c, nn < c → ∀ k ∈ refs (.lsw (ws ++ [w2])), k < c) → PostS X.K xr B Wx kp m2 F2 H2 σ (.ok (.nx env) (h2.set nn (.lsw (ws ++ [w2])))) D → rAppend (.ref al) [v2] H2 fun _ H4 => D.nx σ H4 := fun hlt hc p2 => by
          refine ⟨al, vs, v2, rfl, rfl, eH, by rw [dd.length]; omega, ?_⟩
          obtain ⟨r', e'⟩ := S2.hr.put (u := .lst (vs ++ [v2])) (o := .lsw (ws ++ [w2])) em fa ⟨fa, _, upd_same, dd.app (.cons rv2 .nil)⟩ hc
          exact p2 _ _ _ _ e' (S2.ext r' e') (.refl ..)
        have old : ∀ c ∈ B.c, nn < c → (∀ q, w2 = .l q → c ≤ nn) → ∀ k ∈ refs (.lsw (ws ++ [w2])), k < c := fun c hc hn' h' k hk => by
          obtain ⟨_, c2⟩ := S2.hr.clo c hc
          simp only [refs, List.mem_flatMap] at hk
          obtain ⟨y, hy, hk⟩ := hk
          rcases List.mem_append.mp hy with hy | hy
          · exact c2 nn _ k hn' eo (by simp only [refs, List.mem_flatMap]; exact ⟨y, hy, hk⟩)
          · have hy : y = w2 := by simpa using hy
            subst hy
            cases y with
            | d _ => simp [refsW] at hk
            | x _ _ => simp [refsW] at hk
            | l q => exact absurd (h' q rfl) (by omega)
        cases w2 with
        | x _ _ => exact p2.elim
        | d x =>
          simp only at p2
          split at p2
          · rename_i hlt
            exact go hlt (fun c hc hn' => old c hc hn' (fun q z => nomatch z)) p2
          · exact p2.elim
        | l q =>
          simp only at p2
          split at p2
          · rename_i hlt
            exact go hlt.1 (fun c hc hn' => old c hc hn' (fun q z => Nat.le_trans (hB c hc) hlt.2)) p2
          · exact p2.elim
      · exact p2.elim
    · cases hrec
  · exact p1.elim
omit hb hB in
theorem if_read {X : Cx} {Wx : WX} {kp : List Nat} {rc : Vars → Hq → R W} {r1 r2 : Vars → Hq → R Fl} {D : Ends} {σ : L2.St} {H : Hp} (q : tS X.K xr B Wx kp (fun env h => (rc env h).bind fun v h => match v with
      | .d (.bool true) => r1 env h
      | .d (.bool false) => r2 env h
      | _ => .bad) D σ H) : tIfS (tT X.K xr B Wx rc) (tS X.K xr B Wx kp r1) (tS X.K xr B Wx kp r2) D σ H := by
  obtain ⟨m, F, env, h, S, p⟩ := q
  refine ⟨m, F, env, h, S, (p.bindE (env := env)).mono fun w h1 m1 F1 H1 x1 S1 p1 => ?_⟩
  clear p
  split at p1
  · exact ⟨true, rfl, iteT ⟨m1, F1, env, h1, S1, p1⟩⟩
  · exact ⟨false, rfl, iteF ⟨m1, F1, env, h1, S1, p1⟩⟩
  · exact p1.elim
omit hb hB in
theorem kpt_ex {α : Type} {q : Option Nat} {h h' : Hq} {c : Nat} {ds : List PyData} : kpt q h (.ex c ds h' : R α) = .ex c ds h' := by cases q <;> rfl
omit hb hB in
theorem kpt_bad0 {α : Type} {q : Option Nat} {h : Hq} : kpt q h (.bad : R α) = .bad := by cases q <;> rfl
omit hb hB in
theorem kpt_cases {α : Type} {q : Option Nat} {h h' : Hq} {a : α} : (kpt q h (.ok a h') = .ok a h' ∧ kept q h h') ∨ kpt q h (.ok a h') = .bad := by
  cases q with
  | none => exact .inl ⟨rfl, trivial⟩
  | some n =>
    by_cases e : h'[n]? = h[n]?
    · exact .inl ⟨by simp only [kpt, R.bind, if_pos e], e⟩
    · exact .inr (by simp only [kpt, R.bind, if_neg e])
omit hb hB in
theorem kpt_bad {X : Cx} {Wx : WX} {kp : List Nat} {m : List Addr} {F H : Hp} {σ : L2.St} {D : Ends} {q : Option Nat} {h : Hq} {f : Fl → Hq → R Fl} (p : PostS X.K xr B Wx kp m F H σ ((kpt q h (.bad : R Fl)).bind f) D) : False := by
  rw [kpt_bad0] at p
  exact p
omit hb hB in
theorem for_read (hx0 : B.ex = none) {X : Cx} {Wx : WX} {kp : List Nat} {rit : Vars → Hq → R (List W × Option Nat)} {rb : Vars → Hq → R Fl} {t : List Nat} {u : Bool} {D : Ends} {σ : L2.St} {H : Hp} (hk : t.all (fun i => !kp.contains i) = true)
    (q : tS X.K xr B Wx kp (fun env h => (rit env h).bind fun ws h => forGo (fun w env h => kpt ws.2 h (match bindT t u w env with
      | some env => rb env h
      | none => .bad)) ws.1 env h) D σ H) : tFor (tI X.K xr B Wx rit) (gT X.K t u) (tS X.K xr B Wx kp rb) D σ H := by
  obtain ⟨m0, F0, env0, h0, S0, p⟩ := q
  refine ⟨m0, F0, env0, h0, S0, (p.bindE (env := env0)).mono fun wq h1 m1 F1 H1 x1 S1 p1 J hJ hwl => ?_⟩
  clear p
  obtain ⟨ws, qq⟩ := wq
  simp only at p1 hJ hwl
  refine ⟨fun i j σc H => j = ws.length - i ∧ i ≤ ws.length ∧ ∃ m F env h, Ext m1 F1 H1 m F H ∧ Kp kp σ σc ∧ SR X.K B m F env h σc H ∧ kept qq h1 h ∧ PostS X.K xr B Wx kp m F H σc (forGo (fun w env h => kpt qq h (match bindT t u w env with
      | some env => rb env h
      | none => .bad)) (ws.drop i) env h) D, ⟨ws.length, by simp, Nat.zero_le _, m1, F1, env0, h1, .refl .., .refl .., S1, .refl, p1⟩, ?_⟩
  rintro i j σc H ⟨rfl, hi, m, F, env, h, x, kk, S, hkp, p⟩
  obtain ⟨it1, it2⟩ := hJ B i m F h H x.ml x.sub S.hr hkp
  by_cases hlt : i < ws.length
  · have ed : ws.drop i = ws[i] :: ws.drop (i + 1) := List.drop_eq_getElem_cons hlt
    rw [ed] at p
    simp only [forGo] at p
    obtain ⟨go, yl⟩ := it1 ws[i] (by simp [hlt])
    refine .inr ⟨go, fun σ' H' => ∃ j', j' < ws.length - i ∧ j' = ws.length - (i + 1) ∧ i + 1 ≤ ws.length ∧ ∃ m F env h, Ext m1 F1 H1 m F H' ∧ Kp kp σ σ' ∧ SR X.K B m F env h σ' H' ∧ kept qq h1 h ∧ PostS X.K xr B Wx kp m F H' σ' (forGo (fun w env h => kpt qq h (match bindT t u w env with
      | some env => rb env h
      | none => .bad)) (ws.drop (i + 1)) env h) D, fun σ' H' n => ?_, fun y H' hy => ?_⟩
    · obtain ⟨j', a, b, c, d⟩ := n
      exact ⟨j', a, b, c, d⟩
    obtain ⟨eH, ry⟩ := yl y H' hy
    subst eH
    cases hbt : bindT t u ws[i] env with
    | none => rw [hbt] at p; exact (kpt_bad p).elim
    | some env2 =>
    rw [hbt] at p
    simp only at p
    refine bind_asg (kp := kp) (fun e he => by rw [hx0] at he; cases he) hbt ry S hk fun σ2 S2 k2 => ⟨m, F, env2, h, S2, ?_⟩
    have next : ∀ {env3 : Vars} {h3 : Hq}, kept qq h h3 → PostS X.K xr B Wx kp m F H' σc (forGo (fun w env h => kpt qq h (match bindT t u w env with
      | some env => rb env h
      | none => .bad)) (ws.drop (i + 1)) env3 h3) D → ∀ m' F' H3 σ', Ext m F H' m' F' H3 → SR X.K B m' F' env3 h3 σ' H3 → Kp kp σ2 σ' → ∃ j', j' < ws.length - i ∧ j' = ws.length - (i + 1) ∧ i + 1 ≤ ws.length ∧ ∃ m F env h, Ext m1 F1 H1 m F H3 ∧ Kp kp σ σ' ∧ SR X.K B m F env h σ' H3 ∧ kept qq h1 h ∧ PostS X.K xr B Wx kp m F H3 σ' (forGo (fun w env h => kpt qq h (match bindT t u w env with
      | some env => rb env h
      | none => .bad)) (ws.drop (i + 1)) env h) D := fun {env3 h3} hk3 p m' F' H3 σ' x3 S3 k3 =>
      ⟨ws.length - (i + 1), by omega, rfl, hlt, m', F', env3, h3, x.trans x3, kk.trans (k2.trans k3), S3, hkp.trans hk3, p.shift x3 (k2.trans k3)⟩
    cases hr : rb env2 h with
    | bad => rw [hr] at p; exact (kpt_bad p).elim
    | ex c ds h3 => rw [hr, kpt_ex] at p; exact p.shift (.refl ..) k2
    | ok f h3 =>
      rw [hr] at p
      rcases kpt_cases (q := qq) (h := h) (h' := h3) (a := f) with ⟨ek, hk3⟩ | ek
      rotate_left
      · rw [ek] at p; exact p.elim
      rw [ek] at p
      cases f with
      | nx env3 => exact next hk3 p
      | ct env3 => exact next hk3 p
      | bk env3 => exact PostS.shift (r := .ok (.nx env3) h3) p (.refl ..) k2
      | rt w => exact PostS.shift (r := .ok (.rt w) h3) p (.refl ..) k2
  · have ei : i = ws.length := by omega
    subst ei
    rw [List.drop_length] at p
    exact .inl ⟨it2 (Nat.le_refl _), PostS.nx p S (.refl ..)⟩
omit hb hB in
theorem whl_read {X : Cx} {Wx : WX} {kp : List Nat} {rc : Vars → Hq → R W} {rb : Vars → Hq → R Fl} {N : Nat} {D : Ends} {σ : L2.St} {H : Hp}
    (q : tS X.K xr B Wx kp (fun env h => whlGo rc rb N env h) D σ H) : tWhile (tT X.K xr B Wx rc) (tS X.K xr B Wx kp rb) D σ H := by
  obtain ⟨m0, F0, env0, h0, S0, p0⟩ := q
  refine ⟨fun j σc H => ∃ m F env h, SR X.K B m F env h σc H ∧ PostS X.K xr B Wx kp m F H σc (whlGo rc rb j env h) D, ⟨N, m0, F0, env0, h0, S0, p0⟩, ?_⟩
  rintro j σc H ⟨m, F, env, h, S, p⟩
  cases j with
  | zero => exact p.elim
  | succ j =>
    simp only [whlGo] at p
    refine ⟨m, F, env, h, S, (p.bindE (env := env)).mono fun w h1 m1 F1 H1 x1 S1 p1 => ?_⟩
    clear p
    split at p1
    · exact ⟨false, rfl, iteF (PostS.nx p1 S1 (.refl ..))⟩
    · refine ⟨true, rfl, iteT ⟨fun σ' H' => ∃ m' , m' < j + 1 ∧ ∃ m F env h, SR X.K B m F env h σ' H' ∧ PostS X.K xr B Wx kp m F H' σ' (whlGo rc rb m' env h) D, fun σ' H' n => n, m1, F1, env, h1, S1, ?_⟩⟩
      have next : ∀ {env3 : Vars} {h3 : Hq}, PostS X.K xr B Wx kp m1 F1 H1 σc (whlGo rc rb j env3 h3) D → ∀ m' F' H3 σ', Ext m1 F1 H1 m' F' H3 → SR X.K B m' F' env3 h3 σ' H3 → Kp kp σc σ' → ∃ m', m' < j + 1 ∧ ∃ m F env h, SR X.K B m F env h σ' H3 ∧ PostS X.K xr B Wx kp m F H3 σ' (whlGo rc rb m' env h) D :=
        fun {env3 h3} p m' F' H3 σ' x3 S3 k3 => ⟨j, by omega, m', F', env3, h3, S3, p.shift x3 k3⟩
      cases hr : rb env h1 with
      | bad => rw [hr] at p1; exact p1.elim
      | ex c ds h3 => rw [hr] at p1; exact p1
      | ok f h3 =>
        rw [hr] at p1
        cases f with
        | nx env3 => exact next p1
        | ct env3 => exact next p1
        | bk env3 => exact p1
        | rt w => exact p1
    · exact p1.elim
omit hb hB in
theorem frz_read {X : Cx} {Wx : WX} {kp : List Nat} {i : Nat} {ss : Ss} {D : Ends} {σ : L2.St} {H : Hp} (q : tS X.K xr B Wx kp (evSs b (callN T n) (.cons (.frz i) ss)) D σ H) : tS X.K xr B Wx kp (evSs b (callN T n) ss) D σ H := by
  obtain ⟨m, F, env, h, S, p⟩ := q
  simp only [evSs, evS] at p
  unfold evFrz at p
  split at p
  · rename_i nn ei
    split at p
    · rename_i xs eo
      have hie : ∀ e, B.ex = some e → i ≠ e.i := fun e he z => by
        have := (S.exv e he).1
        rw [← z, ei] at this
        cases this
      obtain ⟨v, ev, rv⟩ := S.var i _ hie ei
      obtain ⟨a, em, rfl⟩ := rv
      obtain ⟨fa, vs, eH, dd⟩ := S.hr.ob nn _ a eo em
      obtain ⟨r', e'⟩ := S.hr.frz em fa eH
      have p : PostS X.K xr B Wx kp m F H σ (evSs b (callN T n) ss (env.set i (some (.d (.list xs)))) (h.set nn .dead)) D := p
      refine ⟨m, _, _, _, ⟨r', by simpa using S.el, fun j w hj0 ej => ?_, fun y hy => ?_⟩, p.shift e' (.refl ..)⟩
      by_cases hj : j = i
      · subst hj
        have hl : j < env.length := (List.getElem?_eq_some_iff.mp ei).1
        rw [List.getElem?_set_self hl] at ej
        cases ej
        exact ⟨_, ev, .lst sq_new (dps_mono e'.sub _ _ dd)⟩
      · rw [List.getElem?_set_ne (Ne.symm hj)] at ej
        obtain ⟨v, h1, h2⟩ := S.var j w hj0 ej
        exact ⟨v, h1, wr_mono (.refl _) e'.sub h2⟩
      · obtain ⟨h1, h2, h3⟩ := S.exv y hy
        exact ⟨by rw [List.getElem?_set_ne (hie y hy)]; exact h1, h2, y.mono _ _ e'.sub h3⟩
    · exact p.elim
  · exact p.elim

omit hb hB in
theorem pmk_own0 {X : Cx} {C : Addr} {bmB : List Value} {Bb newId initId : String} {x : Str} {p pos : Pos} (F : ExcBaseFacts Bb newId initId bmB) (q : PySem.W.excIn X.K C bmB newId = true) (gC : X.mg x = some (.ref C)) (kC : PySem.W.keepIn X.K (.ref C) = true) (r : Raises X (.ref C)) (hg : Gl X x)
    (hdb : (x == ("__debug__" : Str)) = false) : PMk X (.Call (.Name x p) [] [] pos) (fun _ H Q => Q (.ref C) none H) := by
  intro pins s σ H Q I h
  refine wpAny_Call_Name_kw (ld_glob I hg gC ?_ hdb)
  refine PySem.W.callWith_K0 I.kIn kC ?_
  obtain ⟨bm, N, nm, qn, bs, hdct, sn, sub, ab, col, dd, k0, k1, k2, k3, k5, mN, hC, hN, hni, T⟩ := exc_obj I.kIn q
  refine wpAny_call_exc_subT F T hC hN hni (fun h' e hm => ?_) (by show 0 ≤ sizeLine; exact Nat.zero_le _)
  exact mk_of I hm r h (I.hok.gone hm.new)
omit hb hB in
theorem snd_rais (c : Nat) (es : Es) : SndS M xr T n b B (.rais c es) := by
  intro X Wx sc kp p k h
  simp only [matS, Bool.and_eq_true] at h
  obtain ⟨⟨hcm, hes⟩, h⟩ := h
  cases es with
  | cons e es => simp [Es.isNil] at hes
  | nil =>
    split at h
    · rename_i x e1
      obtain ⟨pos, p1, p2, rfl⟩ := raisOf_ok e1
      simp only [Bool.and_eq_true] at h
      obtain ⟨⟨hno, g⟩, pn⟩ := h
      unfold clsNo at hno
      split at hno
      · rename_i d e2
        simp only [Bool.and_eq_true, decide_eq_true_eq, List.isEmpty_iff] at hno
        obtain ⟨⟨rfl, ho⟩, hfl⟩ := hno
        have C := k.cls c d e2 ho
        refine (ps_raise (k.clm hcm) k.tk (pmk_own0 PySem.F.excBase_ValueError (C.xC hfl) C.gC C.kC (raises_own C.sC C.tC) (gl_of k.hs g) (plainN_of pn).1)).weak fun D σ H q => ?_
        obtain ⟨m, F, env, hq, S, q⟩ := q
        simp only [evS, evEs, R.bind, allD] at q
        refine q m F H _ _ σ (.refl ..) S.hr ?_ (.refl _ _)
        rw [k.xrE]
        exact ⟨d, e2, ho, rfl, by rw [hfl]; rfl, .inl ⟨hfl, rfl⟩⟩
      · cases hno
    · cases h
omit hb hB in
theorem kp_sub {kp kp2 : List Nat} {σ σ' : L2.St} (h : ∀ i ∈ kp, i ∈ kp2) (k : Kp kp2 σ σ') : Kp kp σ σ' := ⟨k.1, fun i hi => k.2 i (h i hi)⟩
omit hb hB in
theorem keepE_len {kp : List Nat} : ∀ (env : Vars) (i : Nat), (keepE kp i env).length = env.length
  | [], _ => rfl
  | w :: ws, i => by simp only [keepE, List.length_cons, keepE_len ws]
omit hb hB in
theorem keepE_at {kp : List Nat} : ∀ (env : Vars) (i j : Nat) (w : W), (keepE kp i env)[j]? = some (some w) → (i + j) ∈ kp ∧ env[j]? = some (some w)
  | [], _, _, _, e => by simp [keepE] at e
  | o :: ws, i, 0, w, e => by
    simp only [keepE, List.getElem?_cons_zero, Option.some.injEq] at e
    split at e
    · rename_i h
      exact ⟨List.contains_iff_mem.mp h, by rw [List.getElem?_cons_zero, e]⟩
    · cases e
  | o :: ws, i, j + 1, w, e => by
    simp only [keepE, List.getElem?_cons_succ] at e
    obtain ⟨h1, h2⟩ := keepE_at ws (i + 1) j w e
    exact ⟨by rw [show i + (j + 1) = i + 1 + j by omega]; exact h1, by rw [List.getElem?_cons_succ]; exact h2⟩
/-- the ends of an except suite -/
def Dn (nm : Option Nat) (D : Ends) : Ends := match nm with
  | none => D
  | some i => { nx := fun σ' H' => D.nx (σ'.set i none) H', rt := D.rt, bk := fun σ' H' => D.bk (σ'.set i none) H', ct := fun σ' H' => D.ct (σ'.set i none) H' }
def sn (nm : Option Nat) (a : Addr) (σ : L2.St) : L2.St := match nm with
  | none => σ
  | some i => σ.set i (some (.ref a))
def un (nm : Option Nat) (σ : L2.St) : L2.St := match nm with
  | none => σ
  | some i => σ.set i none
omit hb hB in
theorem Dn_nx {nm : Option Nat} {D : Ends} {σ : L2.St} {H : Hp} : (Dn nm D).nx σ H = D.nx (un nm σ) H := by cases nm <;> rfl
omit hb hB in
theorem Dn_bk {nm : Option Nat} {D : Ends} {σ : L2.St} {H : Hp} : (Dn nm D).bk σ H = D.bk (un nm σ) H := by cases nm <;> rfl
omit hb hB in
theorem Dn_ct {nm : Option Nat} {D : Ends} {σ : L2.St} {H : Hp} : (Dn nm D).ct σ H = D.ct (un nm σ) H := by cases nm <;> rfl
omit hb hB in
theorem Dn_rt {nm : Option Nat} {D : Ends} : (Dn nm D).rt = D.rt := by cases nm <;> rfl
/-- the exception that comes to a suite -/
def Bs (K : PySem.W.Frag) (cl : List CDef) (c0 : List Nat) (nm : Option Nat) (a : Addr) (c : Nat) (ds : List PyData) (cls : Value) (dx : Option Addr) : BB := ⟨c0, nm.map fun i => ⟨i, a, c, ds, fun F => xrC K cl c ds cls dx F F, fun _ _ le h => xrC_mono le h⟩⟩
def tSu (K : PySem.W.Frag) (xr : XRel) (cl : List CDef) (c0 : List Nat) (nm : Option Nat) (kp : List Nat) (f : Vars → Hq → R Fl) (a : Addr) (cls : Value) (dx : Option Addr) : TS := fun D σ H => ∃ (c : Nat) (ds : List PyData) (m : List Addr) (F : Hp) (env : Vars) (h : Hq),
  SR K (Bs K cl c0 nm a c ds cls dx) m F env h σ H ∧ PostS K xr (Bs K cl c0 nm a c ds cls dx) (fun _ _ _ _ => False) kp m F H σ (f env h) D
omit hb hB in
theorem sr_back {K : PySem.W.Frag} {cl : List CDef} {B : BB} (hx : B.ex = none) {nm : Option Nat} {a : Addr} {c : Nat} {ds : List PyData} {cls : Value} {dx : Option Addr} {m : List Addr} {F H : Hp} {env : Vars} {h : Hq} {σ : L2.St} (S : SR K (Bs K cl B.c nm a c ds cls dx) m F env h σ H) : SR K B m F (clrN nm env) h (un nm σ) H := by
  refine ⟨S.hr, ?_, fun j w _ e => ?_, fun y hy => by rw [hx] at hy; cases hy⟩
  · have := S.el
    cases nm <;> simpa [clrN, un] using this
  · cases nm with
    | none => exact S.var j w (fun y hy => by cases hy) e
    | some i =>
      by_cases hj : j = i
      · subst hj
        have e : (env.set j none)[j]? = some (some w) := e
        rw [List.getElem?_set] at e
        simp at e
      · have e : (env.set i none)[j]? = some (some w) := e
        rw [List.getElem?_set_ne (Ne.symm hj)] at e
        obtain ⟨v, h1, h2⟩ := S.var j w (fun y hy => by
          have hy : some _ = some y := hy
          cases hy
          exact hj) e
        exact ⟨v, by show (σ.set i none)[j]? = _; rw [List.getElem?_set_ne (Ne.symm hj)]; exact h1, h2⟩
omit hb hB in
theorem kp_sn {kp : List Nat} {nm : Option Nat} (h : ∀ i, nm = some i → i ∉ kp) {a : Addr} {σ : L2.St} : Kp kp σ (sn nm a σ) := by
  cases nm with
  | none => exact .refl _ _
  | some i => exact kp_set (by cases q : kp.contains i with | false => rfl | true => exact absurd (List.contains_iff_mem.mp q) (h i rfl))
omit hb hB in
theorem kp_un {kp : List Nat} {nm : Option Nat} (h : ∀ i, nm = some i → i ∉ kp) {σ : L2.St} : Kp kp σ (un nm σ) := by
  cases nm with
  | none => exact .refl _ _
  | some i => exact kp_set (by cases q : kp.contains i with | false => rfl | true => exact absurd (List.contains_iff_mem.mp q) (h i rfl))
omit hb hB in
theorem try_read {cs : List Nat} {nm : Option Nat} {kp kp2 : List Nat} {x y : Ss} {X : Cx} {Wx : WX} {sc : Scope} {z : Str} {pz pos pos2 : Pos} {n0 : Option Str} {pb ps : List Stmt} {p : Stmt} (k : XOk2 X Wx M xr T n B sc) (hcm : M.cm = true) (hkp : ∀ i ∈ kp, i ∈ kp2)
    (hcl : clsOwn M z cs = true) (hg : isGl sc z = true) (hp : plainN z = true) (hnm : nmOk M sc kp nm n0 = true)
    (hbody : ∀ (X : Cx) (W : WX), XOk2 X W M xr T n B sc → PSs X pb (tS X.K xr B W kp2 (evSs b (callN T n) x)))
    (hsu : ∀ (X : Cx) (W : WX) (B2 : BB), B2.c = B.c → XOk2 X W { M with xs := nm, cm := false } xr T n B2 sc → PSs X (p :: ps) (tS X.K xr B2 W kp (evSs b (callN T n) y))) :
    PS X (.Try pb [.ExceptHandler (some (.Name z pz)) n0 (p :: ps) pos2] [] [] pos) (tS X.K xr B Wx kp (evS b (callN T n) (.tryS cs nm kp2 x y))) := by
  have hx := k.noex hcm
  obtain ⟨j, ec, hj, rfl, rfl, ho⟩ : ∃ (j : Nat) (e : CDef), M.cls[j]? = some e ∧ e.nm = z ∧ e.subs = cs ∧ e.own = true := by
    unfold clsOwn at hcl
    obtain ⟨e, he, h⟩ := List.any_eq_true.mp hcl
    simp only [Bool.and_eq_true, decide_eq_true_eq] at h
    obtain ⟨j, hj⟩ := List.getElem?_of_mem he
    exact ⟨j, e, hj, h.1.1, h.1.2, h.2⟩
  have nmk : ∀ i, nm = some i → i ∉ kp := fun i hi => by
    subst hi
    cases n0 with
    | none => simp [nmOk] at hnm
    | some y =>
      simp only [nmOk, Bool.and_eq_true, Bool.not_eq_true'] at hnm
      intro z
      rw [List.contains_iff_mem.mpr z] at hnm
      cases hnm.2
  have hc : Names X ec.nm (.ref (cA X.K ec)) := ⟨gl_of k.hs hg, (plainN_of hp).1, .inl (k.cls j ec hj ho).gC⟩
  have HB : ∀ (W : WX) (pn : List (Addr × Obj)) (xe : Value → Shared → Prop), Takes (X.tr pn xe) W → PassesOwn (model X.prog X.w) X.A X.env xe → PSs (X.tr pn xe) pb (tS X.K xr B W kp2 (evSs b (callN T n) x)) := fun W pn xe tk po =>
    hbody (X.tr pn xe) W ⟨⟨k.calm, k.nd, k.hN, k.hs, tk, k.hu, k.hw, k.gd, k.room, k.bl, k.gls, k.glz, k.fns, k.xrE, k.cls, k.bcl, k.xs, k.exn, fun e he => by rw [hx] at he; cases he⟩, po, k.fn, k.kd, k.stk, k.frm⟩
  have HS : ∀ (a : Addr) (oe : Obj) (cls : Value) (d : Option Addr) (pn : List (Addr × Obj)), Zc cls d oe → (∃ vs, oe.data = .fields vs) → PSs (X.suite a ((a, oe) :: pn)) (p :: ps) (tSu X.K xr M.cls B.c nm kp (evSs b (callN T n) y) a cls d) := fun a oe cls d pn hz hf => by
    refine ⟨fun pins s σ H D I q => ?_⟩
    obtain ⟨c, ds, m, F, env, h, S, q⟩ := q
    refine (hsu (X.suite a ((a, oe) :: pn)) (fun _ _ _ _ => False) (Bs X.K M.cls B.c nm a c ds cls d) rfl ⟨⟨rfl, k.nd, k.hN, k.hs, fun u s' z => ?_, k.hu, k.hw, k.gd, fun z => (by cases z), k.bl, k.gls, k.glz, k.fns, k.xrE, k.cls, k.bcl, (by cases nm <;> rfl), fun z => (by cases z), fun e he => ?_⟩, PassesOwn.never, k.fn, k.kd, k.stk, k.frm⟩).run pins s σ H D I ⟨m, F, env, h, S, q⟩
    · obtain ⟨_, _, _, _, _, _, _, _, _, _, _, _, _, _, _, _, w⟩ := z
      exact w
    · cases nm with
      | none => cases he
      | some i =>
        have he : some _ = some e := he
        cases he
        exact ⟨X, oe, pn, cls, d, rfl, hz, hf, fun F h => h⟩
  -- the reading
  have main : ∀ (D : Ends) (σ : L2.St) (H : Hp), tS X.K xr B Wx kp (evS b (callN T n) (.tryS ec.subs nm kp2 x y)) D σ H → tS X.K xr B (fun cls d σ H => ∃ kb, PySem.W.exmOne X.K cls (.ref (cA X.K ec)) = some kb ∧ (kb = true → ∀ a, H a = none → tSu X.K xr M.cls B.c nm kp (evSs b (callN T n) y) a cls d (Dn nm D) (sn nm a σ) H) ∧ (kb = false → Wx cls d σ H)) kp2 (evSs b (callN T n) x) D σ H := by
    intro D σ H q
    obtain ⟨m, F, env, hq, S, q⟩ := q
    refine ⟨m, F, env, hq, S, ?_⟩
    simp only [evS] at q
    cases e : evSs b (callN T n) x env hq with
    | bad => rw [e] at q; exact q.elim
    | ok fl h1 =>
      rw [e] at q
      cases fl with
      | nx env1 => exact fun m1 F1 H1 σ1 x1 S1 k1 => q m1 F1 H1 σ1 x1 S1 (kp_sub hkp k1)
      | bk env1 => exact fun m1 F1 H1 σ1 x1 S1 k1 => q m1 F1 H1 σ1 x1 S1 (kp_sub hkp k1)
      | ct env1 => exact fun m1 F1 H1 σ1 x1 S1 k1 => q m1 F1 H1 σ1 x1 S1 (kp_sub hkp k1)
      | rt w => exact q
    | ex c ds h1 =>
      rw [e] at q
      intro m1 F1 H1 cls dx σ1 x1 r1 hxr k1
      have hxr2 := hxr
      rw [k.xrE] at hxr2
      obtain ⟨d0, hd0, ho0, hcls, hdl, alt⟩ := hxr2
      have ex := (k.cls c d0 hd0 ho0).exm j ec hj ho
      rw [← hcls] at ex
      refine ⟨_, ex, fun ht a ha => ?_, fun hf => ?_⟩
      · simp only [ht, if_true] at q
        cases hin : nmIn nm env with
        | false => rw [hin] at q; simp only [Bool.not_false, if_true] at q; exact q.elim
        | true =>
        rw [hin] at q
        simp only [Bool.not_true, Bool.false_eq_true, if_false] at q
        have hxr3 := hxr
        rw [k.xrE] at hxr3
        have le : HpLe F1 F1 := .refl _
        refine ⟨c, ds, m1, F1, setN nm (.x c ds) (keepE kp2 0 env), h1, ⟨r1, ?_, fun i w hi ei => ?_, fun y hy => ?_⟩, ?_⟩
        · have h1 := S.el
          have h2 := k1.1
          have h3 : (setN nm (.x c ds) (keepE kp2 0 env)).length = env.length := by cases nm <;> simp [setN, keepE_len]
          have h4 : (sn nm a σ1).length = σ1.length := by cases nm <;> simp [sn]
          omega
        · have ne : ∀ i0, nm = some i0 → i ≠ i0 := fun i0 h0 => by
            subst h0
            exact hi ⟨i0, a, c, ds, _, _⟩ rfl
          have ei2 : (keepE kp2 0 env)[i]? = some (some w) := by
            cases nm with
            | none => exact ei
            | some i0 =>
              have ei : ((keepE kp2 0 env).set i0 _)[i]? = some (some w) := ei
              rw [List.getElem?_set_ne (Ne.symm (ne i0 rfl))] at ei
              exact ei
          obtain ⟨g1, g2⟩ := keepE_at env 0 i w ei2
          rw [Nat.zero_add] at g1
          obtain ⟨v, s1, s2⟩ := S.var i w (fun y hy => by rw [hx] at hy; cases hy) g2
          have s3 : σ1[i]? = some (some v) := by rw [k1.2 i g1]; exact s1
          refine ⟨v, ?_, wr_mono x1.ml x1.sub s2⟩
          cases nm with
          | none => exact s3
          | some i0 => show (σ1.set i0 _)[i]? = _; rw [List.getElem?_set_ne (Ne.symm (ne i0 rfl))]; exact s3
        · cases nm with
          | none => cases hy
          | some i0 =>
            have hy : some _ = some y := hy
            cases hy
            have l1 : i0 < env.length := of_decide_eq_true hin
            have l2 : i0 < σ1.length := by have := S.el; have := k1.1; omega
            exact ⟨by show ((keepE kp2 0 env).set i0 _)[i0]? = _; rw [List.getElem?_set_self (by rw [keepE_len]; exact l1)], by show (σ1.set i0 _)[i0]? = _; rw [List.getElem?_set_self l2], xrC_mono (H := H1) (H' := F1) le hxr3⟩
        · have kk : ∀ {σ2 : L2.St}, Kp kp (sn nm a σ1) σ2 → Kp kp σ (un nm σ2) := fun {σ2} k2 => (kp_sub hkp k1).trans ((kp_sn nmk).trans (k2.trans (kp_un nmk)))
          cases e2 : evSs b (callN T n) y (setN nm (.x c ds) (keepE kp2 0 env)) h1 with
          | bad => rw [e2] at q; exact q.elim
          | ex _ _ _ => rw [e2] at q; exact q.elim
          | ok fl h2 =>
            rw [e2] at q
            cases fl with
            | nx env2 => exact fun m2 F2 H2 σ2 x2 S2 k2 => Eq.mpr Dn_nx (q m2 F2 H2 _ (x1.trans x2) (sr_back hx S2) (kk k2))
            | bk env2 => exact fun m2 F2 H2 σ2 x2 S2 k2 => Eq.mpr Dn_bk (q m2 F2 H2 _ (x1.trans x2) (sr_back hx S2) (kk k2))
            | ct env2 => exact fun m2 F2 H2 σ2 x2 S2 k2 => Eq.mpr Dn_ct (q m2 F2 H2 _ (x1.trans x2) (sr_back hx S2) (kk k2))
            | rt w => exact fun m2 F2 H2 v x2 S2 rv => Eq.mpr (congrFun (congrFun Dn_rt v) H2) (q m2 F2 H2 v (x1.trans x2) S2 rv)
      · simp only [hf, Bool.false_eq_true, if_false] at q
        exact q m1 F1 H1 cls dx σ1 x1 r1 hxr (kp_sub hkp k1)
  cases nm with
  | none =>
    cases n0 with
    | some _ => simp [nmOk] at hnm
    | none => exact (ps_try_only k.stk k.frm hc k.tk (tb := fun W => tS X.K xr B W kp2 (evSs b (callN T n) x)) HB HS).weak main
  | some i =>
    cases n0 with
    | none => simp [nmOk] at hnm
    | some y0 =>
      simp only [nmOk, Bool.and_eq_true, decide_eq_true_eq] at hnm
      obtain ⟨⟨h1, h2⟩, h3⟩ := hnm
      exact (ps_try_as (i := i) k.stk k.frm k.nd (by rw [k.hN]; exact of_decide_eq_true h1) (by show X.env.scope.names.lookup y0 = _; rw [k.hs]; exact h2) hc k.tk (tb := fun W => tS X.K xr B W kp2 (evSs b (callN T n) x)) HB HS).weak main

omit hb hB
mutual
theorem sndS : ∀ (s : S) {M : ME} {B : BB} (hb : b ∈ B.c) (hB : ∀ c ∈ B.c, c ≤ b), SndS M xr T n b B s
  | .bad, M, B, hb, hB => by
    intro X Wx sc kp p k h
    refine ⟨fun pins s σ H D I q => ?_⟩
    obtain ⟨m, F, env, hq, S, q⟩ := q
    simp only [evS] at q
    exact q.elim
  | .asg t u e, M, B, hb, hB => snd_asg hb hB
  | .set o i e, M, B, hb, hB => snd_set hb hB
  | .app o e, M, B, hb, hB => snd_app hb hB
  | .expr e, M, B, hb, hB => by
    intro X Wx sc kp p k h
    cases p <;> try (simp only [matS, Bool.false_eq_true] at h; done)
    rename_i p pos
    simp only [matS, Bool.and_eq_true] at h
    have hs : swapsWith p none pos.line X.env = pure false := by
      cases p <;> first | rfl | (simp [notLC] at h)
    refine (ps_expr (sndE hb hB e X Wx sc p k.toXOk h.2).pe hs).weak fun D σ H q => ?_
    simp only [tS, evS] at q
    exact bindS (ra := evE b (callN T n) e) q fun m F env hq H w v S r q => PostS.nx q S (.refl ..)
  | .ret e, M, B, hb, hB => by
    intro X Wx sc kp p k h
    cases p <;> try (simp only [matS, Bool.false_eq_true] at h; done)
    rename_i v pos
    cases v <;> simp only [matS, Bool.false_eq_true] at h
    refine (ps_ret (sndE hb hB e X Wx sc _ k.toXOk h).pe).weak fun D σ H q => ?_
    simp only [tS, evS] at q
    exact bindS (ra := evE b (callN T n) e) q fun m F env hq H w v S r q => q m F H v (.refl ..) S.hr r
  | .retN, M, B, hb, hB => by
    intro X Wx sc kp p k h
    cases p <;> try (simp only [matS, Bool.false_eq_true] at h; done)
    rename_i v pos
    cases v <;> simp only [matS, Bool.false_eq_true] at h
    refine ps_retN.weak fun D σ H q => ?_
    obtain ⟨m, F, env, hq, S, q⟩ := q
    exact q m F H _ (.refl ..) S.hr .non
  | .ifs c x y, M, B, hb, hB => by
    intro X Wx sc kp p k h
    cases p <;> simp only [matS, Bool.false_eq_true, Bool.and_eq_true] at h
    refine (ps_if ((sndE hb hB c X Wx sc _ k.toXOk h.1.1.2).pt h.1.1.1) (sndSs x hb hB X Wx sc kp _ k h.1.2) (sndSs y hb hB X Wx sc kp _ k h.2)).weak fun D σ H q => ?_
    simp only [tS, evS] at q
    exact if_read q
  | .forS t u it s, M, B, hb, hB => by
    intro X Wx sc kp p k h
    cases p <;> try (simp only [matS, Bool.false_eq_true] at h; done)
    rename_i tg pi ps os pos
    cases os <;> try (simp [matS] at h; done)
    simp only [matS, Bool.and_eq_true] at h
    obtain ⟨⟨⟨⟨⟨hcm, h1⟩, h2⟩, h3⟩, h4⟩, h5⟩ := h
    refine (ps_for k.po (k.clm hcm) (sndIt hb hB it X Wx sc tg pi k.toXOk h4) (pg_T (fun _ => k.clm hcm) k.hN k.nd (fun x hx => sto_all k hx) h1) (sndSs s hb hB X Wx sc kp ps k h5) (noset h3)).weak fun D σ H q => ?_
    simp only [tS, evS] at q
    exact for_read (k.noex hcm) h2 q
  | .whl N c s, M, B, hb, hB => by
    intro X Wx sc kp p k h
    cases p <;> try (simp only [matS, Bool.false_eq_true] at h; done)
    rename_i pc ps os pos
    cases os <;> try (simp [matS] at h; done)
    simp only [matS, Bool.and_eq_true] at h
    refine (ps_while k.po ((sndE hb hB c X Wx sc _ k.toXOk h.1.2).pt h.1.1) (sndSs s hb hB X Wx sc kp ps k h.2)).weak fun D σ H q => ?_
    simp only [tS, evS] at q
    exact whl_read q
  | .pass, M, B, hb, hB => by
    intro X Wx sc kp p k h
    cases p <;> try (simp only [matS, Bool.false_eq_true] at h; done)
    refine ps_pass.weak fun D σ H q => ?_
    obtain ⟨m, F, env, hq, S, q⟩ := q
    exact PostS.nx q S (.refl ..)
  | .brk, M, B, hb, hB => by
    intro X Wx sc kp p k h
    cases p <;> try (simp only [matS, Bool.false_eq_true] at h; done)
    refine ps_break.weak fun D σ H q => ?_
    obtain ⟨m, F, env, hq, S, q⟩ := q
    exact q m F H σ (.refl ..) S (.refl ..)
  | .cnt, M, B, hb, hB => by
    intro X Wx sc kp p k h
    cases p <;> try (simp only [matS, Bool.false_eq_true] at h; done)
    refine ps_continue.weak fun D σ H q => ?_
    obtain ⟨m, F, env, hq, S, q⟩ := q
    exact q m F H σ (.refl ..) S (.refl ..)
  | .rais c es, M, B, hb, hB => snd_rais c es
  | .tryS cs nm kp2 x y, M, B, hb, hB => by
    intro X Wx sc kp p k h
    simp only [matS, Bool.and_eq_true, List.all_eq_true] at h
    obtain ⟨⟨hcm, hkp⟩, h⟩ := h
    split at h
    · rename_i pb z n ps e1
      obtain ⟨pos, pos2, pz, p, r, rfl, rfl⟩ := tryOf_ok e1
      simp only [Bool.and_eq_true] at h
      obtain ⟨⟨⟨⟨⟨h1, h2⟩, h3⟩, h4⟩, h5⟩, h6⟩ := h
      exact try_read (b := b) (kp2 := kp2) k hcm (fun i hi => List.contains_iff_mem.mp (hkp i hi)) h1 h2 h3 h4 (fun X W k2 => sndSs x hb hB X W sc kp2 pb k2 h5)
        (fun X W B2 e k2 => sndSs y (M := { M with xs := nm, cm := false }) (B := B2) (by rw [e]; exact hb) (by rw [e]; exact hB) X W sc kp (p :: r) k2 h6)
    · cases h
  | .frz i, M, B, hb, hB => by
    intro X Wx sc kp p k h
    cases p <;> simp only [matS, Bool.false_eq_true] at h
theorem sndSs : ∀ (ss : Ss) {M : ME} {B : BB} (hb : b ∈ B.c) (hB : ∀ c ∈ B.c, c ≤ b), SndSs M xr T n b B ss
  | .nil, M, B, hb, hB => by
    intro X Wx sc kp ps k h
    cases ps <;> simp only [matSs, Bool.false_eq_true] at h
    refine pss_nil.weak fun D σ H q => ?_
    obtain ⟨m, F, env, hq, S, q⟩ := q
    exact PostS.nx q S (.refl ..)
  | .cons s ss, M, B, hb, hB => by
    intro X Wx sc kp ps k h
    by_cases hf : ∃ i, s = .frz i
    · obtain ⟨i, rfl⟩ := hf
      simp only [matSs] at h
      exact (sndSs ss hb hB X Wx sc kp ps k h).weak fun D σ H q => frz_read q
    · cases ps with
      | nil => cases s <;> first | (simp [matSs] at h; done) | exact absurd ⟨_, rfl⟩ hf
      | cons p ps =>
        have h' : matS M kp sc s p = true ∧ matSs M kp sc ss ps = true := by
          cases s <;> first | (simpa [matSs] using h) | exact absurd ⟨_, rfl⟩ hf
        refine (pss_cons (sndS s hb hB X Wx sc kp p k h'.1) (sndSs ss hb hB X Wx sc kp ps k h'.2)).weak fun D σ H q => ?_
        obtain ⟨m, F, env, hq, S, q⟩ := q
        simp only [evSs] at q
        refine ⟨m, F, env, hq, S, ?_⟩
        cases e : evS b (callN T n) s env hq with
        | bad => rw [e] at q; exact q.elim
        | ex c ds h1 => rw [e] at q; exact q
        | ok f h1 =>
          rw [e] at q
          cases f with
          | nx env1 => exact fun m1 F1 H1 σ1 x1 S1 k1 => ⟨m1, F1, env1, h1, S1, PostS.shift (r := evSs b (callN T n) ss env1 h1) q x1 k1⟩
          | rt w => exact q
          | bk env1 => exact q
          | ct env1 => exact q
end
end
end Ev

namespace Ev
open PySem PySem.Spec L2
/-- a def's body keeps its promise -/
theorem bodyG {P : Program} {w : World} {K : PySem.W.Frag} {mg : Str → Option Value} {base : Heap} {x qual : Str} {params : Arguments} {body : List Stmt} {scope : Scope} {dvs : List V} {kws : List (Str × V)} {f : Addr} {fd : FuncData} {CX : CXT} {N ps : List Str} {k : Nat} {sp : Sp}
    (D : FunD K x qual params body scope dvs kws f fd) (S : FnScope N ps scope) (lenG : ∀ ys G Z D, sp ys G Z D → ys.length = ps.length)
    (walk : ∀ (cdv : Value) (A : Around) (fr : List Env) (s : Shared) (G : Hp) (ys : List V) (Z : VK) (D : XK), A.guards = some [] → Room k (A.deeper (PyProof.Rows.envOfC qual scope s.heap.objs.size f cdv)) → sp ys G Z D →
      ∃ t, PSs (cxOf CX P w K mg base N qual scope f cdv A fr s G D) body t ∧ t { nx := fun _ H' => Z .non H', rt := Z } (L2.start N ys) G) : FnG P w K mg base CX (k + 1) f fd ps sp := by
  obtain ⟨oc, od, dV, kV, doc, pm, an, cdv, ct, osl, rfl, look, code, _, _⟩ := D.ex
  refine ⟨lenG, fun A gd fr s G args zs ys Z D room e bt rel q => ?_⟩
  have many := lenG _ _ _ _ q
  have keeps : ∀ b o, base.get? b = some o → s.heap.get? b = some o := fun b o z => (e.bs b o z).1
  have inK : K.In s.heap := e.mod.kin.keeps keeps
  have free : s.heap.NoLimit := e.mod.nolimit.keeps keeps
  have kinds : ∀ y ∈ ps.zip zs, scope.names.lookup y.1 = some .local ∨ (scope.names.lookup y.1 = some .cell ∧ ((cellsFrom (s.heap.objs.size + 1) scope.names []).lookup y.1).isSome = true) := by
    intro y hy
    cases S.par y.1 (List.of_mem_zip (a := y.1) (b := y.2) hy).1 with
    | inl z => exact .inl z
    | inr z => exact .inr ⟨z, PySem.W.cellsFrom_some _ _ _ (.inl z)⟩
  refine codeAny_call_function room.depth (inK _ _ look) rfl S.co S.gen rfl (PySem.W.codeRec_of inK code) (bt _ _ _ _ (wpAny_newFunctionEnv_cells S.kind kinds fun env he s1 nw => ?_))
  subst he
  refine ⟨free.keeps nw.toInCall.keep, codeAny_func ?_⟩
  obtain ⟨t, run, at0⟩ := walk cdv A fr s G ys Z D gd (room.deeper _) q
  have J := inv_start (CX := CX) (E := D) (cd := cdv) S room.hd e many rel nw
  refine wpAny_mono (run.run [] s1 (L2.start N ys) G _ J at0) (fun res s2 o => ?_) fun ex s2 o => o
  have done : ∀ {σ2 : St} {G2 : Hp} {y : V} {u : Value}, Inv (cxOf CX P w K mg base N qual scope f cdv A fr s G D) [] σ2 G2 s2 → RelV y u → Z y G2 → CE fr P w G s Z u s2 :=
    fun {σ2 G2 y u} J2 ry z => ⟨y, G2, J2.os, J2.bare, J2.base, J2.hok, ry, z⟩
  cases res with
  | ret u =>
    obtain ⟨y, σ2, G2, J2, ry, z⟩ := o
    exact done J2 ry z
  | next =>
    obtain ⟨σ2, G2, J2, z⟩ := o
    exact done (y := V.non) (u := Value.none) J2 rfl z
  | brk => exact (let ⟨_, _, _, z⟩ := o; (z : False).elim)
  | cont => exact (let ⟨_, _, _, z⟩ := o; (z : False).elim)
end Ev

/-! EvN: every def keeps its promise (fnAll). -/
namespace Ev
open PySem PySem.Spec L2
variable [Wd]

/-- what must be known of the defs: the table T stands for the program's defs -/
def DefOk (K : PySem.W.Frag) (mg : Str → Option Value) (T : List FD) (G : GE) (f : Nat) (x : Str) : Prop :=
  ∃ (fd : FD) (nm qual : Str) (params : Arguments) (body : List Stmt) (scope : Scope) (a : Addr) (fdt : FuncData) (ps N : List Str), T[f]? = some fd ∧ FunD K nm qual params body scope [] [] a fdt ∧ FnScope N ps scope ∧ ps.length = fd.np ∧ N.length = fd.ns ∧
    matSs ⟨G, N, none, true⟩ [] scope fd.body body = true ∧ mg x = some (.ref a) ∧ Binds K fdt ps []

theorem HR.grow {K : PySem.W.Frag} {B : List Nat} {m : List Addr} {F H : Hp} {h : Hq} (r : HR K B m F h H) : HR K (h.length :: B) m F h H := by
  refine ⟨r.len, r.nd, r.ob, r.sub, r.there, fun c hc => ?_⟩
  rcases List.mem_cons.mp hc with e | hc
  · subst e
    refine ⟨Nat.le_refl _, fun n o k hn e hk => ?_⟩
    obtain ⟨a, ea, q⟩ := r.at e
    cases o with
    | lst xs => simp [refs] at hk
    | dct xs => simp [refs] at hk
    | dki xs => simp [refs] at hk
    | dead => simp [refs] at hk
    | lsw ws =>
      obtain ⟨f, vs, eH, d⟩ := q
      clear e eH
      induction d with
      | nil => simp [refs] at hk
      | cons d1 d2 ih =>
        rename_i w ws'
        simp only [refs, List.flatMap_cons, List.mem_append] at hk
        rcases hk with hk | hk
        · cases w with
          | d x => simp [refsW] at hk
          | x _ _ => simp [refsW] at hk
          | l j =>
            simp only [refsW, List.mem_singleton] at hk
            subst hk
            obtain ⟨b, eb, rfl⟩ := d1
            rw [← r.len]
            exact (List.getElem?_eq_some_iff.mp eb).1
        · exact ih hk
  · exact r.clo c hc

section
variable {P : Program} {w : World} {K : PySem.W.Frag} {mg : Str → Option Value} {base : Heap} {xr : XRel} {T : List FD} {G : GE}

theorem sr_start {B : List Nat} {m : List Addr} {F H : Hp} {h : Hq} {N : List Str} {vs : List V} {ws : List W} {k : Nat} (r : HR K B m F h H) (q : WRs K m F vs ws) (hk : ws.length + k = N.length) :
    SR K ⟨B, none⟩ m F (ws.map some ++ List.replicate k none) h (L2.start N vs) H := by
  have hl := q.length
  refine ⟨r, ?_, fun i w _ e => ?_, fun y hy => (by cases hy)⟩
  · unfold L2.start
    simp only [List.length_append, List.length_map, List.length_replicate]
    omega
  · by_cases hi : i < ws.length
    · rw [List.getElem?_append_left (by simpa using hi), List.getElem?_map] at e
      cases e2 : ws[i]? with
      | none => rw [e2] at e; cases e
      | some w' =>
        rw [e2] at e
        cases e
        obtain ⟨v, hv, rv⟩ := q.get e2
        refine ⟨v, ?_, rv⟩
        unfold L2.start
        rw [List.getElem?_append_left (by simpa using by omega), List.getElem?_map, hv]
        rfl
    · rw [List.getElem?_append_right (by simpa using hi), List.getElem?_replicate] at e
      split at e <;> cases e

/-- what is cut off was made since -/
theorem Ext.cut {m m' : List Addr} {F F' H H' : Hp} (x : Ext m F H m' F' H') : Ext m F H m F' H' :=
  ⟨.refl _, x.sub, x.frm, fun a h g => absurd h g, x.frf⟩

theorem spF_len {n f : Nat} {fd : FD} (e : T[f]? = some fd) {vs : List V} {H : Hp} {Q : VK} {E : XK} (s : spF K xr T n f vs H Q E) : vs.length = fd.np := by
  obtain ⟨fd', e', l, _⟩ := s
  rw [e] at e'
  cases e'
  exact l

theorem spF_zero {f : Nat} {vs : List V} {H : Hp} {Q : VK} {E : XK} (s : spF K xr T 0 f vs H Q E) : False := by
  obtain ⟨fd, e, l, B, b, m, F, ws, h, hb, hB, r, q, s⟩ := s
  exact s

/-- a def keeps its promise, if those that it calls do -/
theorem fnStep {n f : Nat} (hw : w = Wd.w) (hbl : ∀ x ∈ bnames, mg x = none) (hx : xr = xrC K G.cls) (hgi : ∀ x i, (x, i) ∈ G.gi → ∃ t, mg x = some (.int i t)) (hgs : ∀ x z, (x, z) ∈ G.gs → ∃ t, mg x = some (.str z t)) (hcl : ∀ c d, G.cls[c]? = some d → d.own = true → ClsOk K mg G.cls c d) (hbc : ∀ d ∈ G.cls, d.own = false → mg d.nm = none ∧ d.nm = "ValueError") (ih : ∀ (f : Nat) (x : Str), G.fn[f]? = some x → ∃ a fd ps, mg x = some (.ref a) ∧ PySem.W.keepIn K (.ref a) = true ∧ Binds K fd ps [] ∧ FnG P w K mg base (L2.CX P w) n a fd ps (spF K xr T n f))
    {fd : FD} {nm qual : Str} {params : Arguments} {body : List Stmt} {scope : Scope} {a : Addr} {fdt : FuncData} {ps N : List Str} (eT : T[f]? = some fd) (FD' : FunD K nm qual params body scope [] [] a fdt) (FS : FnScope N ps scope) (l1 : ps.length = fd.np) (l2 : N.length = fd.ns)
    (hm : matSs ⟨G, N, none, true⟩ [] scope fd.body body = true) : FnG P w K mg base (L2.CX P w) (n + 1) a fdt ps (spF K xr T (n + 1) f) := by
    refine bodyG FD' FS (fun vs H Q E s => by rw [spF_len eT s, l1]) fun cdv A outer s H vs Q E gd hr sp => ?_
    obtain ⟨fd2, eT2, hl, B, b, m, F, ws, h, hb, hB, r, q, sp⟩ := sp
    rw [eT] at eT2
    cases eT2
    have hlw : ws.length = fd.np := by rw [← q.length]; exact hl
    have hpl : fd.np ≤ N.length := by
      have := congrArg List.length FS.pre
      rw [List.length_take] at this
      omega
    have ev : callN T (n + 1) b f ws h = runF (callN T n) fd b ws h := by simp only [callN, eT]
    rw [ev] at sp
    have k : XOk2 (cxOf (L2.CX P w) P w K mg base N qual scope a cdv A outer s H E) (fun cls d _ H => E cls d H) ⟨G, N, none, true⟩ xr T n ⟨B, none⟩ scope := by
      refine ⟨⟨rfl, FS.nd, rfl, rfl, takes_of rfl rfl rfl rfl, ?_, hw, gd, fun _ => hr, hbl, hgi, hgs, fun f x e => ih f x e, hx, hcl, hbc, rfl, fun _ => rfl, fun e he => (by cases he)⟩, passes_of rfl, fun _ => rfl, FS.kind, rfl, rfl⟩
      have := hr.un
      show (A.deeper _).units + 200 < cLine
      omega
    unfold runF at sp
    rw [if_pos hlw] at sp
    cases htr : fd.tr with
    | false =>
      rw [htr] at sp
      simp only [Bool.false_eq_true, if_false] at sp
      refine ⟨_, sndSs fd.body (B := ⟨B, none⟩) hb hB _ _ scope [] body k hm, m, F, ws.map some ++ List.replicate (fd.ns - fd.np) none, h, sr_start r q (by omega), ?_⟩
      cases e2 : evSs b (callN T n) fd.body (ws.map some ++ List.replicate (fd.ns - fd.np) none) h with
      | bad => rw [e2] at sp; exact sp.elim
      | ex c ds h' => rw [e2] at sp; exact fun m' F' H' cls dx σ' x r' y _ => sp m' F' H' cls dx x r' y
      | ok fl h' =>
        rw [e2] at sp
        cases fl with
        | nx env => exact fun m' F' H' σ' x r' _ => sp .non m' F' H' x r'.hr .non
        | rt wv => exact fun m' F' H' v x r' rv => sp v m' F' H' x r' rv
        | bk env => exact sp.elim
        | ct env => exact sp.elim
    | true =>
      rw [htr] at sp
      simp only [if_true] at sp
      have k2 : XOk2 (cxOf (L2.CX P w) P w K mg base N qual scope a cdv A outer s H E) (fun cls d _ H => E cls d H) ⟨G, N, none, true⟩ xr T n ⟨h.length :: B, none⟩ scope := ⟨⟨k.calm, k.nd, k.hN, k.hs, k.tk, k.hu, k.hw, k.gd, k.room, k.bl, k.gls, k.glz, k.fns, k.xrE, k.cls, k.bcl, rfl, k.exn, fun e he => (by cases he)⟩, k.po, k.fn, k.kd, k.stk, k.frm⟩
      have hB2 : ∀ c ∈ h.length :: B, c ≤ h.length := fun c hc => by
        rcases List.mem_cons.mp hc with e | hc
        · omega
        · exact (r.clo c hc).1
      have cutHR : ∀ {m' F' H' h'}, Ext m F H m' F' H' → HR K (h.length :: B) m' F' h' H' → HR K B m F' (h'.take h.length) H' := fun x r' => r'.cut x.ml r.len.symm fun d hd => (r.clo d hd).1
      refine ⟨_, sndSs fd.body (b := h.length) (B := ⟨h.length :: B, none⟩) List.mem_cons_self hB2 _ _ scope [] body k2 hm, m, F, ws.map some ++ List.replicate (fd.ns - fd.np) none, h, sr_start r.grow q (by omega), ?_⟩
      cases e2 : evSs h.length (callN T n) fd.body (ws.map some ++ List.replicate (fd.ns - fd.np) none) h with
      | bad => rw [e2] at sp; exact sp.elim
      | ex c ds h' => rw [e2] at sp; exact fun m' F' H' cls dx σ' x r' y _ => sp m F' H' cls dx x.cut (cutHR x r') y
      | ok fl h' =>
        rw [e2] at sp
        cases fl with
        | nx env => exact fun m' F' H' σ' x r' _ => sp .non m F' H' x.cut (cutHR x r'.hr) .non
        | rt wv =>
          cases wv with
          | d d => exact fun m' F' H' v x r' rv => sp v m F' H' x.cut (cutHR x r') rv
          | l j => exact sp.elim
          | x _ _ => exact sp.elim
        | bk env => exact sp.elim
        | ct env => exact sp.elim
/-- every def keeps its promise -/
theorem fnAll (hw : w = Wd.w) (hbl : ∀ x ∈ bnames, mg x = none) (hx : xr = xrC K G.cls) (hgi : ∀ x i, (x, i) ∈ G.gi → ∃ t, mg x = some (.int i t)) (hgs : ∀ x z, (x, z) ∈ G.gs → ∃ t, mg x = some (.str z t)) (hcl : ∀ c d, G.cls[c]? = some d → d.own = true → ClsOk K mg G.cls c d) (hbc : ∀ d ∈ G.cls, d.own = false → mg d.nm = none ∧ d.nm = "ValueError") (hk : ∀ (f : Nat) (x : Str), G.fn[f]? = some x → DefOk K mg T G f x) (hkp : ∀ (f : Nat) (x : Str) (a : Addr), G.fn[f]? = some x → mg x = some (.ref a) → PySem.W.keepIn K (.ref a) = true) : ∀ (n f : Nat) (x : Str), G.fn[f]? = some x →
    ∃ a fd ps, mg x = some (.ref a) ∧ PySem.W.keepIn K (.ref a) = true ∧ Binds K fd ps [] ∧ FnG P w K mg base (L2.CX P w) n a fd ps (spF K xr T n f)
  | 0, f, x, e => by
    obtain ⟨fd, nm, qual, params, body, scope, a, fdt, ps, N, eT, FD', FS, l1, l2, hm, hg, hbd⟩ := hk f x e
    exact ⟨a, fdt, ps, hg, hkp f x a e hg, hbd, ⟨fun vs H Q E s => (spF_zero s).elim, fun A gd outer s H args us vs Q E hr he hb hv hs => (spF_zero hs).elim⟩⟩
  | n + 1, f, x, e => by
    obtain ⟨fd, nm, qual, params, body, scope, a, fdt, ps, N, eT, FD', FS, l1, l2, hm, hg, hbd⟩ := hk f x e
    exact ⟨a, fdt, ps, hg, hkp f x a e hg, hbd, fnStep hw hbl hx hgi hgs hcl hbc (fnAll hw hbl hx hgi hgs hcl hbc hk hkp n) eT FD' FS l1 l2 hm⟩
end
end Ev

/-! EvNe: a law's end, for a promise that is asked where no repr is under way. -/
namespace Ev
open PySem PySem.Spec PyProof.Rows L2
theorem law_callG {P : Program} {w : World} {K : PySem.W.Frag} {mg mb : Str → Option Value} {CX : CXT} {k : Nat} {fa z : Addr} {fd : FuncData} {x : Str} {sp : Sp} {s0 : Shared} {us : List Value} {ks : List Int}
    (inK : K.In s0.heap) (ng : s0.heap.Ns mainGlobals mg) (nb : s0.heap.Ns builtinsNs mb) (boot : ∀ y : Str, y ≠ "__name__" → mb y = bootBuiltins y) (free : s0.heap.NoLimit) (gens : s0.gens = #[])
    (there : s0.heap.get? z = some { cls := .type "list", data := .seq us.toArray }) (hints : IntsAre us ks) (small : ks.length ≤ sizeLine) (room : Room k callerA)
    (F : ∀ base : Heap, K.In base → base.Ns mainGlobals mg → FnG P w K mg base CX k fa fd [x] sp) (bind : ∀ (s : Shared) (v : Value), BindsTo s fd ⟨[v], []⟩ [(x, v)])
    (start : ∀ G : Hp, Only G → SqL K G z (ks.map V.int) → sp [.ref z] G (fun v _ => v = .bl true) fun _ _ _ => False)
    (quiet : ∀ G e s', CX [] G s0 (fun _ _ _ => False) e s' → False) :
    codeAny (model P w) callerA (.call (.ref fa) ⟨[.ref z], []⟩) (fun r s' => r = .ok (.ret (.bool true)) ∧ OldK s0.heap s'.heap ∧ s'.os = s0.os ∧ AllBare s'.gens) s0 := by
  have vals := vals_ints hints
  have many := hints.length
  have core : ∀ G : Hp, Only G → SqL K G z (ks.map V.int) → HOk P w G s0.heap → (∀ b, G b ≠ none → b = z) → (G z ≠ none → K.lookup z = none) →
      codeAny (model P w) callerA (.call (.ref fa) ⟨[.ref z], []⟩) (fun r s' => r = .ok (.ret (.bool true)) ∧ OldK s0.heap s'.heap ∧ s'.os = s0.os ∧ AllBare s'.gens) s0 := by
    intro G only sq ok alone notK
    have keepB : ∀ {b : Addr} {o : Obj}, s0.heap.get? b = some o → G b = none → (hidT s0.heap G).get? b = some o := fun p q => hidT_get p q
    have isZ : ∀ {b : Addr} {u : HO}, G b = some u → b = z := fun {b u} q => alone b (by rw [q]; simp)
    have noD : ∀ {b : Addr} {o : Obj} {es : Array DictEntry} {ep : Nat}, s0.heap.get? b = some o → o.data = .dict es ep → G b = none := by
      intro b o es ep p d
      cases q : G b with
      | none => rfl
      | some u =>
        cases isZ q
        rw [there] at p
        cases p
        exact absurd (show Data.seq us.toArray _ = Data.dict es ep from d) (fun t => nomatch t)
    have spaces : ∀ {b : Addr} {m : Str → Option Value}, s0.heap.Ns b m → (hidT s0.heap G).Ns b m := fun {b m} ⟨o, es, ep, p, d, r⟩ => ⟨o, es, ep, keepB p (noD p d), d, r⟩
    have inB : K.In (hidT s0.heap G) := fun b o p => keepB (inK b o p) (by
      cases q : G b with
      | none => rfl
      | some u =>
        cases isZ q
        rw [notK (by rw [q]; simp)] at p
        cases p)
    have mod : Mod K mg (hidT s0.heap G) := ⟨inB, spaces ng, ⟨mb, spaces nb, boot⟩, let ⟨mc, p, q⟩ := free; ⟨mc, spaces p, q⟩⟩
    have e0 : Env0 P w K mg (hidT s0.heap G) callerA [] s0 G := ⟨rfl, mod, fun b o p => of_hidT p, Nat.le_of_eq (hidT_size _ _), trivial, fun b q => absurd (show b ∈ ([] : List Addr) from q) (by simp), ok, .of_eq gens⟩
    refine codeAny_mono ((F _ inB (spaces ng)).runG callerA rfl [] s0 G ⟨[.ref z], []⟩ [.ref z] [.ref z] _ _ room e0 (bind s0 (.ref z)) (.cons rfl .nil) (start G only sq)) fun res s' o => ?_
    cases res with
    | error e => exact (quiet G e s' o).elim
    | ok fl =>
      cases fl with
      | next => exact (show False from o).elim
      | brk => exact (show False from o).elim
      | cont => exact (show False from o).elim
      | ret u =>
        obtain ⟨v, G', os, bare, un, ok', rv, q⟩ := o
        cases (show v = .bl true from q)
        cases (show u = Value.bool true from rv)
        refine ⟨rfl, OldK.of_keep fun b o p => ?_, os, bare⟩
        cases q : G b with
        | none => exact un.keep b o p q (by intro t; exact absurd (show b ∈ ([] : List Addr) from t) (by simp)) (by simp)
        | some u =>
          rcases only b with t | ⟨ob, xs, t⟩
          · rw [q] at t; cases t
          · have t2 := un.frzs b ob _ t
            obtain ⟨p1, _⟩ := ok b _ t
            obtain ⟨p2, _⟩ := ok' b _ t2
            rw [p] at p1
            cases p1
            exact p2
  cases mine : K.lookup z with
  | some o =>
    have p := inK z o mine
    rw [there] at p
    cases p
    exact core (fun _ => none) (fun _ => .inl rfl) (.inr ⟨_, us.toArray, _, mine, rfl, rfl, rfl, by rw [List.size_toArray, many]; exact small, by simpa using vals⟩) (fun b u t => (by have t' : (none : Option HO) = some u := t; cases t')) (fun b t => absurd rfl t) fun t => absurd rfl t
  | none =>
    refine core (fun b => if b = z then some (.frz { cls := .type "list", data := .seq us.toArray } (.lst (ks.map V.int))) else none) (fun b => ?_) (.inl (.inr ⟨{ cls := .type "list", data := .seq us.toArray }, if_pos rfl⟩)) (fun b u t => ?_) (fun b t => ?_) fun _ => mine
    · by_cases e : b = z
      · exact .inr ⟨_, _, if_pos e⟩
      · exact .inl (if_neg e)
    · by_cases e : b = z
      · have t' := (if_pos e).symm.trans t
        cases t'
        subst e
        exact ⟨there, by rw [List.length_map]; exact small, us, _, vals, there⟩
      · have t' := (if_neg e).symm.trans t
        cases t'
    · by_cases e : b = z
      · exact e
      · exact absurd (if_neg e) t
/-- a law's walk -/
theorem walkG {l : PySem.W.OpenLaw} {n k : Nat} {q : Program} {loose : List Str} {XP : (Str → Option Value) → Heap → Prop} {YP : World → Heap → Prop} {d : DefRec} {CX : CXT} {x : Str}
    (most : l.most = some n) (small : n ≤ sizeLine) (plain : d.params.defaults = []) (room : Room k callerA)
    (F : ∀ (w : World) (mg : Str → Option Value) (fa : Addr) (h : Heap), YP w h → h.Ns mainGlobals mg → mg d.name = some (.ref fa) →
      ∃ (K : PySem.W.Frag) (fd : FuncData) (sp : Sp), K.In h ∧ (∀ (s : Shared) (v : Value), BindsTo s fd ⟨[v], []⟩ [(x, v)]) ∧
        (∀ (G : Hp) (z : Addr) (ks : List Int), ks.length ≤ n → Only G → SqL K G z (ks.map V.int) → sp [.ref z] G (fun v _ => v = .bl true) fun _ _ _ => False) ∧
        ∀ base : Heap, K.In base → base.Ns mainGlobals mg → FnG l.prog w K mg base CX k fa fd [x] sp)
    (quiet : ∀ (G : Hp) (s : Shared) (e : Value) (s' : Shared), CX [] G s (fun _ _ _ => False) e s' → False) :
    PySem.W.WalkO q loose XP YP l.row.toRowW d [] (fun f vs => PySem.call f vs) := by
  refine Att.attach_call most plain fun w s0 s1 mg mb fa o pm cd doc z us ks G Y ho hd hcd nm obj hints len gens => ?_
  obtain ⟨K, fd, sp, inK, bd, st, prom⟩ := F w mg fa _ Y G.T.g nm
  exact law_callG inK G.T.g G.T.b G.T.builtins G.T.nolimit gens obj hints (Nat.le_trans len small) room prom bd (fun H a b => st H z ks len a b) fun H e s' => quiet H s1 e s'
end Ev

/-! EvO: from a table of terms to the law (law_of). -/
namespace Ev
open PySem PySem.Spec L2

/-- one def of the row's top: its statement, parameters, names, term -/
structure DF where
  nm : Str
  st : Stmt
  ps : List Str
  N : List Str
  fd : FD
def DF.dd (d : DF) : He.DefD := ⟨(d.nm, none), d.nm, d.nm, defArgs d.st, defBody d.st, defScope d.st, [], []⟩
def DF.chk (G : GE) (d : DF) : Bool := decide ((defScope d.st).kind = .function) && (decide ((defScope d.st).isCoroutine = false) && (decide ((defScope d.st).isGenerator = false) && (decide d.N.Nodup && (decide (d.N.take d.ps.length = d.ps) &&
  ((d.ps.all fun x => decide ((defScope d.st).names.lookup x = some .local ∨ (defScope d.st).names.lookup x = some .cell)) && (((defScope d.st).names.all fun y => decide (y.2 ≠ .free)) && (decide (d.ps.length = d.fd.np) && (decide (d.N.length = d.fd.ns) &&
  matSs ⟨G, d.N, none, true⟩ [] (defScope d.st) d.fd.body (defBody d.st)))))))))
theorem DF.scope {G : GE} {d : DF} (h : d.chk G = true) : FnScope d.N d.ps (defScope d.st) ∧ d.ps.length = d.fd.np ∧ d.N.length = d.fd.ns ∧ matSs ⟨G, d.N, none, true⟩ [] (defScope d.st) d.fd.body (defBody d.st) = true := by
  unfold DF.chk at h
  simp only [Bool.and_eq_true, decide_eq_true_eq, List.all_eq_true] at h
  obtain ⟨h1, h2, h3, h4, h5, h6, h7, h8, h9, h10⟩ := h
  exact ⟨⟨h1, h2, h3, h4, h5, h6, h7⟩, h8, h9, h10⟩
def DF.Bnd (d : DF) : Prop := ∀ (kV doc pm : Value) (an : Option Addr) (cdv ct : Value) (us : List Value), us.length = d.ps.length → bindArgs (PySem.W.fnOf d.nm d.nm (defArgs d.st) (defBody d.st) (defScope d.st) .none kV doc pm an cdv ct) ⟨us, []⟩ = pure (d.ps.zip us)
def fas (ds : List DF) (G : GE) : List He.Fa := ds.map (fun d => .glo d.nm) ++ (bnames.map .free ++ (G.gi.map (fun g => .int g.1 g.2) ++ (G.gs.map (fun g => .str g.1 g.2) ++ G.cls.map fun d => if d.own then .glo d.nm else .free "ValueError")))
def fns (ds : List DF) : List He.DefD := ds.map DF.dd
/-- the classes of exceptions -/
def clsE (K : PySem.W.Frag) (d : CDef) (c : Nat) (e : CDef) : Bool := (!e.own || decide (PySem.W.exmOne K (.ref (cA K d)) (.ref (cA K e)) = some (e.subs.contains c))) && decide (PySem.W.kitOne K (.ref (cA K d)) (cV K e) = some (e.subs.contains c))
def cls1 (K : PySem.W.Frag) (cl : List CDef) (d : CDef) (c : Nat) : Bool := PySem.W.keepIn K (.ref (cA K d)) && ((!d.fl.isEmpty || PySem.W.excIn K (cA K d) He.veBase "ValueError.__new__") && (decide (PySem.W.subIn K (.ref (cA K d)) (.type "BaseException") = some true) && (decide (PySem.W.typeIn K (.ref (cA K d)) = some (.type "type")) &&
  (He.eqO (PySem.W.findIn K (.ref (cA K d)) "__getattribute__") (some (some (.builtin "BaseException.__getattribute__"))) && (He.eqO (PySem.W.findIn K (.ref (cA K d)) "__getattr__") (some none) && (PySem.W.hasDictIn K (cA K d) && (He.eqO (PySem.W.findIn K (.ref (cA K d)) "__class__") (some (some (.builtin "object.__class__"))) &&
  (decide (PySem.W.specialIn K (.builtin "object.__class__") "__get__" = some (some (.builtin "getset_descriptor.__get__"))) && (decide (PySem.W.takesIn K (.builtin "object.__class__") = some true) && (decide (PySem.W.mroIn K (cA K d) (.type "object") = some true) && (decide d.fl.Nodup && (d.fl.all (fun f => He.eqO (PySem.W.findIn K (.ref (cA K d)) f) (some none)) && cl.all (clsE K d c)))))))))))))
def clsGo (K : PySem.W.Frag) (cl : List CDef) : List CDef → Nat → Bool
  | [], _ => true
  | d :: r, c => (!d.own || cls1 K cl d c) && (d.own || decide (d.nm = "ValueError")) && clsGo K cl r (c + 1)
def clsB (cl : List CDef) (K : PySem.W.Frag) : Bool := clsGo K cl cl 0
theorem clsGo_at {K : PySem.W.Frag} {cl : List CDef} : ∀ (l : List CDef) (i : Nat), clsGo K cl l i = true → ∀ (c : Nat) (d : CDef), l[c]? = some d → (d.own = true → cls1 K cl d (i + c) = true) ∧ (d.own = false → d.nm = "ValueError")
  | [], _, _, _, _, e => by simp at e
  | x :: l, i, h, c, d, e => by
    simp only [clsGo, Bool.and_eq_true, Bool.or_eq_true, Bool.not_eq_true', decide_eq_true_eq] at h
    obtain ⟨⟨h1, h2⟩, h3⟩ := h
    cases c with
    | zero =>
      simp at e
      subst e
      exact ⟨fun z => by rcases h1 with q | q; · rw [z] at q; cases q
                         · exact q, fun z => by rcases h2 with q | q; · rw [z] at q; cases q
                                                · exact q⟩
    | succ c =>
      have := clsGo_at l (i + 1) h3 c d (by simpa using e)
      rw [show i + 1 + c = i + (c + 1) by omega] at this
      exact this
/-! ### the head's facts, and one more Bool -/
abbrev AlE : Type := He.AlD × Bool
def obsE (n : Nat) (fa : List He.Fa) (fn : List He.DefD) (ex : PySem.W.Frag → Bool) (g : Addr → Option Obj) : AlE := (He.obsD fa fn (He.frG g (He.asD g n)), ex (He.frG g (He.asD g n)))
def hookE (n : Nat) (fa : List He.Fa) (fn : List He.DefD) (ex : PySem.W.Frag → Bool) : PySem.W.Hook where
  α := AlE
  obs := fun s => obsE n fa fn ex s.heap.get?
  val := fun _ => (He.valD fn, true)
  says := fun _ h => ∃ K : PySem.W.Frag, K.In h ∧ He.SaysD fa fn K ∧ ex K = true
  of := fun _ _ e => ⟨_, He.frG_in, congrArg (fun z : AlE => z.1) e, congrArg (fun z : AlE => z.2) e⟩
  keeps := fun _ _ _ ⟨K, hK, c⟩ k => ⟨K, PySem.W.Frag.In.keeps hK k, c⟩
theorem obsE_eq {n : Nat} {fa : List He.Fa} {fn : List He.DefD} {ex : PySem.W.Frag → Bool} {g : Addr → Option Obj} {s : Shared} (h : ∀ a, g a = s.heap.get? a) : obsE n fa fn ex g = (hookE n fa fn ex).obs s := by
  have e : g = s.heap.get? := funext h
  rw [e] <;> rfl

section
variable {P : Program} {w : World} {K : PySem.W.Frag} {mg : Str → Option Value} {h : Heap} {ds : List DF} {G0 : GE}
theorem glo_at (X : K.In h) (G : h.Ns mainGlobals mg) (c : He.SaysD (fas ds G0) (fns ds) K) {i : Nat} {d : DF} (e : ds[i]? = some d) : mg d.nm = some (.ref (He.ga K d.nm)) := by
  obtain ⟨j, hj⟩ := List.getElem?_of_mem (show He.Fa.glo d.nm ∈ fas ds G0 from List.mem_append_left _ (List.mem_map.mpr ⟨d, List.mem_of_getElem? e, rfl⟩))
  exact He.glo_ok X G (c.fact j hj)
theorem def_at (c : He.SaysD (fas ds G0) (fns ds) K) {i : Nat} {d : DF} (e : ds[i]? = some d) : ∃ fd, FunD K d.nm d.nm (defArgs d.st) (defBody d.st) (defScope d.st) [] [] (He.ga K d.nm) fd := by
  have e2 : (fns ds)[i]? = some d.dd := by unfold fns; rw [List.getElem?_map, e]; rfl
  exact c.def_ i e2
theorem free_at (X : K.In h) (G : h.Ns mainGlobals mg) (c : He.SaysD (fas ds G0) (fns ds) K) : ∀ x ∈ bnames, mg x = none := fun x hx => by
  obtain ⟨j, hj⟩ := List.getElem?_of_mem (show He.Fa.free x ∈ fas ds G0 from List.mem_append_right _ (List.mem_append_left _ (List.mem_map.mpr ⟨x, hx, rfl⟩)))
  exact He.free_ok X G (c.fact j hj)
theorem int_at (X : K.In h) (G : h.Ns mainGlobals mg) (c : He.SaysD (fas ds G0) (fns ds) K) : ∀ x i, (x, i) ∈ G0.gi → ∃ t, mg x = some (.int i t) := fun x v hx => by
  obtain ⟨j, hj⟩ := List.getElem?_of_mem (show He.Fa.int x v ∈ fas ds G0 from List.mem_append_right _ (List.mem_append_right _ (List.mem_append_left _ (List.mem_map.mpr ⟨_, hx, rfl⟩))))
  exact He.int_ok X G (c.fact j hj)
theorem str_at (X : K.In h) (G : h.Ns mainGlobals mg) (c : He.SaysD (fas ds G0) (fns ds) K) : ∀ x z, (x, z) ∈ G0.gs → ∃ t, mg x = some (.str z t) := fun x v hx => by
  obtain ⟨j, hj⟩ := List.getElem?_of_mem (show He.Fa.str x v ∈ fas ds G0 from List.mem_append_right _ (List.mem_append_right _ (List.mem_append_right _ (List.mem_append_left _ (List.mem_map.mpr ⟨_, hx, rfl⟩)))))
  exact He.str_ok X G (c.fact j hj)
theorem cls_fa {d : CDef} (hd : d ∈ G0.cls) : (if d.own then He.Fa.glo d.nm else .free "ValueError") ∈ fas ds G0 := List.mem_append_right _ (List.mem_append_right _ (List.mem_append_right _ (List.mem_append_right _ (List.mem_map.mpr ⟨d, hd, rfl⟩))))
theorem cls_at (X : K.In h) (G : h.Ns mainGlobals mg) (c : He.SaysD (fas ds G0) (fns ds) K) (cb : clsB G0.cls K = true) (i : Nat) (d : CDef) (hd : G0.cls[i]? = some d) (ho : d.own = true) : ClsOk K mg G0.cls i d := by
  obtain ⟨j, hj⟩ := List.getElem?_of_mem (cls_fa (ds := ds) (List.mem_of_getElem? hd))
  rw [if_pos ho] at hj
  have g := He.glo_ok X G (c.fact j hj)
  have q := (clsGo_at _ 0 cb i d hd).1 ho
  rw [Nat.zero_add] at q
  unfold cls1 at q
  simp only [Bool.and_eq_true, decide_eq_true_eq, Bool.or_eq_true, Bool.not_eq_true', List.all_eq_true] at q
  obtain ⟨q1, q2, q3, q4, q5, q6, q7, q8, q9, q10, q11, q12, q13, q14⟩ := q
  refine ⟨g, q1, fun z => ?_, q3, q4, ⟨He.eqO_ok q5, He.eqO_ok q6, q3, q7, He.eqO_ok q8, q9, q10, q11⟩, q12, fun f hf => He.eqO_ok (q13 f hf), fun j e he ho => ?_, fun j e he => ?_⟩
  · rcases q2 with q2 | q2
    · rw [z] at q2; cases q2
    · exact q2
  · have := q14 e (List.mem_of_getElem? he)
    unfold clsE at this
    simp only [Bool.and_eq_true, decide_eq_true_eq, Bool.or_eq_true, Bool.not_eq_true'] at this
    rcases this.1 with z | z
    · rw [ho] at z; cases z
    · exact z
  · have := q14 e (List.mem_of_getElem? he)
    unfold clsE at this
    simp only [Bool.and_eq_true, decide_eq_true_eq] at this
    exact this.2
theorem bcl_at (X : K.In h) (G : h.Ns mainGlobals mg) (c : He.SaysD (fas ds G0) (fns ds) K) (cb : clsB G0.cls K = true) : ∀ d ∈ G0.cls, d.own = false → mg d.nm = none ∧ d.nm = "ValueError" := fun d hd ho => by
  obtain ⟨j, hj⟩ := List.getElem?_of_mem (cls_fa (ds := ds) hd)
  rw [ho, if_neg (by simp)] at hj
  obtain ⟨i, hi⟩ := List.getElem?_of_mem hd
  have e := (clsGo_at _ 0 cb i d hi).2 ho
  rw [e]
  exact ⟨He.free_ok X G (c.fact j hj), rfl⟩
theorem defs_ok (X : K.In h) (G : h.Ns mainGlobals mg) (c : He.SaysD (fas ds G0) (fns ds) K) (hfn : G0.fn = ds.map (·.nm)) (ck : ds.all (DF.chk G0) = true) (bd : ∀ d ∈ ds, d.Bnd) (f : Nat) (x : Str) (e : G0.fn[f]? = some x) : DefOk K mg (ds.map (·.fd)) G0 f x := by
  rw [hfn] at e
  rw [List.getElem?_map] at e
  cases e2 : ds[f]? with
  | none => rw [e2] at e; cases e
  | some d =>
    rw [e2] at e
    cases e
    obtain ⟨fdt, FD'⟩ := def_at c e2
    have hm := List.mem_of_getElem? e2
    obtain ⟨h1, h2, h3, h4⟩ := DF.scope (List.all_eq_true.mp ck d hm)
    exact ⟨d.fd, d.nm, d.nm, defArgs d.st, defBody d.st, defScope d.st, _, fdt, d.ps, d.N, by rw [List.getElem?_map, e2]; rfl, FD', h1, h2, h3, h4, glo_at X G c e2, FD'.bindsN (bd d hm)⟩
theorem defs_keep (X : K.In h) (G : h.Ns mainGlobals mg) (c : He.SaysD (fas ds G0) (fns ds) K) (hfn : G0.fn = ds.map (·.nm)) (f : Nat) (x : Str) (a : Addr) (e : G0.fn[f]? = some x) (em : mg x = some (.ref a)) : PySem.W.keepIn K (.ref a) = true := by
  rw [hfn] at e
  rw [List.getElem?_map] at e
  cases e2 : ds[f]? with
  | none => rw [e2] at e; cases e
  | some d =>
    rw [e2] at e
    cases e
    obtain ⟨fdt, FD'⟩ := def_at c e2
    have := (glo_at X G c e2).symm.trans em
    cases this
    exact FD'.kp

def xr0 : XRel := fun _ _ _ _ _ _ => False
theorem dps_ints {F : Hp} : ∀ ns : List Int, DpAll K F (ns.map V.int) (ns.map PyData.int)
  | [] => .nil
  | n :: ns => .cons (.int n) (dps_ints ns)
theorem start_sp [Wd] {xr : XRel} {n i : Nat} {T : List FD} {fd : FD} (eT : T[i]? = some fd) (hn : fd.np = 1) {H : Hp} {a : Addr} {ns : List Int} (s : SqL K H a (ns.map V.int)) {hz : Hq} (pl : callN T n 0 i [.d (.list (ns.map .int))] [] = .ok (.d (.bool true)) hz) :
    spF K xr T n i [.ref a] H (fun v _ => v = .bl true) fun _ _ _ => False := by
  refine ⟨fd, eT, by rw [hn]; rfl, [0], 0, [], H, [.d (.list (ns.map .int))], [], by simp, by simp, ⟨rfl, by simp, fun n o a e => by simp at e, .refl _, by simp, ?_⟩, .cons (.lst s (dps_ints ns)) .nil, ?_⟩
  · intro c hc
    simp only [List.mem_singleton] at hc
    subst hc
    exact ⟨by simp, fun n o k hn => by omega⟩
  · rw [pl]
    intro v m' F' H' x r rv
    have rv : Dp K F' v (.bool true) := rv
    cases rv
    rfl

/-- whatever the world: what a def lets out -/
def CXW (P : Program) : CXT := fun outer H s E u s' => ∃ w, L2.CX P w outer H s E u s'
theorem CXW.none {H : Hp} {s : Shared} {e : Value} {s' : Shared} (z : CXW P [] H s (fun _ _ _ => False) e s') : False := by
  obtain ⟨_, _, _, _, _, _, _, _, _, _, _, _, _, z⟩ := z
  exact z
theorem FnG.toW {base : Heap} {k : Nat} {f : Addr} {fd : FuncData} {ps : List Str} {sp : Sp} (F : FnG P w K mg base (L2.CX P w) k f fd ps sp) : FnG P w K mg base (CXW P) k f fd ps sp :=
  ⟨F.lenG, fun A gd outer s H args us vs Q E hr he hb hv hs => codeAny_mono (F.runG A gd outer s H args us vs Q E hr he hb hv hs) fun r s' q => by
    cases r with
    | error e => exact ⟨w, q⟩
    | ok fl => cases fl <;> exact q⟩
/-- the law's facts -/
theorem law_facts {n i : Nat} {d : DF} {f : Addr} (X : K.In h) (G : h.Ns mainGlobals mg) (c : He.SaysD (fas ds G0) (fns ds) K) (hfn : G0.fn = ds.map (·.nm)) (ck : ds.all (DF.chk G0) = true) (cb : clsB G0.cls K = true) (bd : ∀ d ∈ ds, d.Bnd) (e : ds[i]? = some d) (hps : d.ps = [("_law_script" : Str)]) (hfa : mg d.nm = some (.ref f))
    (pl : ∀ ns : List Int, ns.length ≤ 63 → ∃ hz, callN (ds.map (·.fd)) (n + 1) 0 i [.d (.list (ns.map .int))] [] = .ok (.d (.bool true)) hz) :
    ∃ (K : PySem.W.Frag) (fd : FuncData) (sp : Sp), K.In h ∧ (∀ (s : Shared) (u : Value), BindsTo s fd ⟨[u], []⟩ [("_law_script", u)]) ∧
        (∀ (H : Hp) (a : Addr) (ns : List Int), ns.length ≤ 63 → Only H → SqL K H a (ns.map V.int) → sp [.ref a] H (fun v _ => v = .bl true) fun _ _ _ => False) ∧
        ∀ base : Heap, K.In base → base.Ns mainGlobals mg → FnG P w K mg base (CXW P) (n + 1) f fd ["_law_script"] sp := by
  letI : Wd := ⟨w⟩
  obtain ⟨fdt, FD'⟩ := def_at c e
  have hm := List.mem_of_getElem? e
  obtain ⟨h1, h2, h3, h4⟩ := DF.scope (List.all_eq_true.mp ck d hm)
  have hg := glo_at X G c e
  rw [hfa] at hg
  have hfe : f = He.ga K d.nm := by cases hg; rfl
  subst hfe
  refine ⟨K, fdt, spF K (xrC K G0.cls) (ds.map (·.fd)) (n + 1) i, X, fun s v => ?_, fun H a ns hl hO hS => ?_, fun base hb hn => ?_⟩
  · have b := FunD.bindsA (ps := d.ps) FD' (bd d hm) s [v] (by rw [hps]; rfl)
    rw [hps] at b
    exact b
  · obtain ⟨hz, pl⟩ := pl ns hl
    exact start_sp (by rw [List.getElem?_map, e]; rfl) (by rw [← h2, hps]; rfl) hS pl
  · rw [← hps]
    exact Ev.FnG.toW <| fnStep (G := G0) rfl (free_at X G c) rfl (int_at X G c) (str_at X G c) (cls_at X G c cb) (bcl_at X G c cb) (fnAll (G := G0) rfl (free_at X G c) rfl (int_at X G c) (str_at X G c) (cls_at X G c cb) (bcl_at X G c cb) (defs_ok X G c hfn ck bd) (defs_keep X G c hfn) n) (by rw [List.getElem?_map, e]; rfl) FD' h1 h2 h3 h4
end
end Ev

/-! EvP: lemmas to run the terms by simp. -/
namespace Ev
open PySem

/-- not by unfolding (the kernel would unfold in its own order) -/
theorem nr {α : Sort _} {a b : α} (h : a = b) : a = b := h ▸ rfl
section
variable (b : Nat) (C : CallF) (env : Vars) (h : Hq)
@[simp] theorem b_ex {α β : Type} (c : Nat) (ds : List PyData) (h : Hq) (f : α → Hq → R β) : (R.ex c ds h : R α).bind f = .ex c ds h := nr rfl
@[simp] theorem b_ok {α β : Type} (a : α) (h : Hq) (f : α → Hq → R β) : (R.ok a h).bind f = f a h := nr rfl
@[simp] theorem x_var (i : Nat) : evE b C (.var i) env h = (match env[i]? with
    | some (some w) => .ok w h
    | _ => .bad) := by (simp only [evE]) <;> rfl
@[simp] theorem x_glb (i : Int) : evE b C (.glb i) env h = .ok (.d (.int i)) h := by simp only [evE]
@[simp] theorem x_glbS (z : Str) : evE b C (.glbS z) env h = .ok (.d (.str z)) h := by simp only [evE]
theorem x_exis {i c : Nat} {cs : List Nat} {ds : List PyData} (e : env[i]? = some (some (.x c ds))) : evE b C (.exis i cs) env h = .ok (.d (.bool (cs.contains c))) h := by simp only [evE, e]
theorem x_exfld {i c : Nat} {js : List (Nat × Nat)} {ds : List PyData} {j : Nat} {d : PyData} (e : env[i]? = some (some (.x c ds))) (ej : js.lookup c = some j) (ed : ds[j]? = some d) : evE b C (.exfld i js) env h = .ok (.d d) h := by simp only [evE, e, ej, Option.bind_some, ed]
@[simp] theorem s_rais0 (c : Nat) : evS b C (.rais c .nil) env h = .ex c [] h := by simp only [evS, evEs, R.bind, allD]
theorem s_try (cs : List Nat) (nm : Option Nat) (kp : List Nat) (x y : Ss) : evS b C (.tryS cs nm kp x y) env h = (match evSs b C x env h with
    | .ex c ds h' => if cs.contains c then if !nmIn nm env then .bad else clrF nm (evSs b C y (setN nm (.x c ds) (keepE kp 0 env)) h') else .ex c ds h'
    | r => r) := by (simp only [evS]) <;> rfl
theorem s_try_ok {cs : List Nat} {nm : Option Nat} {kp : List Nat} {x y : Ss} {f : Fl} {h' : Hq} (e : evSs b C x env h = .ok f h') : evS b C (.tryS cs nm kp x y) env h = .ok f h' := by simp only [s_try, e]
theorem s_try_ex {cs : List Nat} {nm : Option Nat} {kp : List Nat} {x y : Ss} {c : Nat} {ds : List PyData} {h' : Hq} (e : evSs b C x env h = .ex c ds h') (hc : cs.contains c = true) (hn : nmIn nm env = true) : evS b C (.tryS cs nm kp x y) env h = clrF nm (evSs b C y (setN nm (.x c ds) (keepE kp 0 env)) h') := by
  simp only [s_try, e, hc, hn, if_true, Bool.not_true, Bool.false_eq_true, if_false]
@[simp] theorem x_trg (t : Bool) (a : E) : evE b C (.trg t a) env h = (evE b C a env h).bind fun w h => match w with
    | .d (.int n) => if rgOk 0 n then .ok (.d ((if t then PyData.tuple else PyData.list) ((List.range n.toNat).map fun i => .int (i : Nat)))) h else .bad
    | _ => .bad := by (simp only [evE]) <;> rfl
@[simp] theorem x_isa (c : Ity) (a : E) : evE b C (.isa c a) env h = (evE b C a env h).bind fun w h => match toD h w with
    | some x => .ok (.d (.bool (isaD c x))) h
    | none => .bad := by (simp only [evE]) <;> rfl
@[simp] theorem x_dlg (kvs : List (Str × Int)) (k d : E) : evE b C (.dlg kvs k d) env h = (evE b C k env h).bind fun v h => (evE b C d env h).bind fun w h => match v with
    | .d (.str s) => .ok (match dlook kvs s with
      | some i => .d (.int i)
      | none => w) h
    | _ => .bad := by (simp only [evE]) <;> rfl
@[simp] theorem x_lit (c : PyData) : evE b C (.lit c) env h = .ok (.d c) h := by (simp only [evE]) <;> rfl
@[simp] theorem x_tup (es : Es) : evE b C (.tup es) env h = (evEs b C es env h).bind fun ws h => match allD ws with
    | some ds => .ok (.d (.tuple ds)) h
    | none => .bad := by (simp only [evE]) <;> rfl
@[simp] theorem x_lst (es : Es) : evE b C (.lst es) env h = (evEs b C es env h).bind fun ws h => match allD ws with
    | some ds => .ok (.d (.list ds)) h
    | none => .bad := by (simp only [evE]) <;> rfl
@[simp] theorem x_lstM (es : Es) : evE b C (.lstM es) env h = (evEs b C es env h).bind fun ws h => match allD ws with
    | some ds => .ok (.l h.length) (h ++ [.lst ds])
    | none => .bad := by (simp only [evE]) <;> rfl
@[simp] theorem x_bin (o : Operator) (x y : E) : evE b C (.bin o x y) env h = (evE b C x env h).bind fun v h => (evE b C y env h).bind fun w h => op2 (evBin o) v w h := by (simp only [evE]) <;> rfl
@[simp] theorem x_binM (o : Operator) (x y : E) : evE b C (.binM o x y) env h = (evE b C x env h).bind fun v h => (evE b C y env h).bind fun w h => opM (evBin o) v w h := by (simp only [evE]) <;> rfl
@[simp] theorem x_neg (x : E) : evE b C (.neg x) env h = (evE b C x env h).bind fun v h => match v with
    | .d (.int i) => .ok (.d (.int (-i))) h
    | _ => .bad := by (simp only [evE]) <;> rfl
@[simp] theorem x_nt (x : E) : evE b C (.nt x) env h = (evE b C x env h).bind fun v h => match v with
    | .d (.bool k) => .ok (.d (.bool (!k))) h
    | _ => .bad := by (simp only [evE]) <;> rfl
@[simp] theorem x_cmp (o : CmpOp) (x y : E) : evE b C (.cmp o x y) env h = (evE b C x env h).bind fun v h => (evE b C y env h).bind fun w h => cmpW o v w h := by (simp only [evE]) <;> rfl
@[simp] theorem x_one (x : E) : evE b C (.one x) env h = evE b C x env h := by (simp only [evE]) <;> rfl
@[simp] theorem x_and (x y : E) : evE b C (.and x y) env h = (evE b C x env h).bind fun v h => match v with
    | .d (.bool true) => evE b C y env h
    | .d (.bool false) => .ok (.d (.bool false)) h
    | _ => .bad := by (simp only [evE]) <;> rfl
@[simp] theorem x_or (x y : E) : evE b C (.or x y) env h = (evE b C x env h).bind fun v h => match v with
    | .d (.bool true) => .ok (.d (.bool true)) h
    | .d (.bool false) => evE b C y env h
    | _ => .bad := by (simp only [evE]) <;> rfl
@[simp] theorem x_ife (c x y : E) : evE b C (.ife c x y) env h = (evE b C c env h).bind fun v h => match v with
    | .d (.bool true) => evE b C x env h
    | .d (.bool false) => evE b C y env h
    | _ => .bad := by (simp only [evE]) <;> rfl
@[simp] theorem x_idx (x i : E) : evE b C (.idx x i) env h = (evE b C x env h).bind fun v h => (evE b C i env h).bind fun w h => evIdx h v w := by (simp only [evE]) <;> rfl
@[simp] theorem x_slc (x : E) (lo hi : Oe) : evE b C (.slc x lo hi) env h = (evE b C x env h).bind fun v h => (evOe b C lo env h).bind fun l h => match intO l with
    | some l => (evOe b C hi env h).bind fun u h => match intO u with
      | some u => evSlc h v l u
      | none => .bad
    | none => .bad := by (simp only [evE]) <;> rfl
@[simp] theorem x_rev (x : E) : evE b C (.rev x) env h = (evE b C x env h).bind fun v h => evRev h v := by (simp only [evE]) <;> rfl
@[simp] theorem x_blt (f : Bt) (es : Es) : evE b C (.blt f es) env h = (evEs b C es env h).bind fun ws h => evB f ws h := by (simp only [evE]) <;> rfl
@[simp] theorem x_mth (f : Mt) (o : E) (es : Es) : evE b C (.mth f o es) env h = (evE b C o env h).bind fun w h => if recv f h w then (evEs b C es env h).bind fun ws h => evM f w ws h else .bad := by (simp only [evE]) <;> rfl
@[simp] theorem x_sset (x : E) : evE b C (.sset x) env h = (evE b C x env h).bind fun v h => match (toD h v).bind listInts with
    | some ns => if ns.length < 60 then .ok (.d (.list ((sortU ns).map .int))) h else .bad
    | none => .bad := by (simp only [evE]) <;> rfl
@[simp] theorem x_call (f : Nat) (es : Es) : evE b C (.call f es) env h = (evEs b C es env h).bind fun ws h => C b f ws h := by (simp only [evE]) <;> rfl
@[simp] theorem x_lc (k : Nat) (t : List Nat) (u : Bool) (it : It) (c : Oe) (e : E) : evE b C (.lc k t u it c e) env h = (evIt b C it env h).bind fun ws h => (noEx (lcGo (fun w h => kpt ws.2 h (match bindT t u w env with
      | some env => (evOe b C c env h).bind fun q h => match boolO q with
        | some true => (evE b C e env h).bind fun r h => .ok (some r) h
        | some false => .ok none h
        | none => .bad
      | none => .bad)) ws.1 h)).bind fun rs h => lcEnd k rs h := by (simp only [evE]) <;> rfl
@[simp] theorem x_call0 (f : Nat) : evE b C (.call0 f) env h = C b f [] h := by (simp only [evE]) <;> rfl
@[simp] theorem x_dnewI : evE b C .dnewI env h = .ok (.l h.length) (h ++ [.dki []]) := by (simp only [evE]) <;> rfl
@[simp] theorem x_dnew : evE b C .dnew env h = .ok (.l h.length) (h ++ [.dct []]) := by (simp only [evE]) <;> rfl
@[simp] theorem x_cmp2 (o p : CmpOp) (x y z : E) : evE b C (.cmp2 o p x y z) env h = (evE b C x env h).bind fun v h => (evE b C y env h).bind fun w h => (cmpW o v w h).bind fun k h => match k with
    | .d (.bool true) => (evE b C z env h).bind fun u h => cmpW p w u h
    | .d (.bool false) => .ok (.d (.bool false)) h
    | _ => .bad := by (simp only [evE]) <;> rfl
@[simp] theorem x_isN (x : E) : evE b C (.isN x) env h = (evE b C x env h).bind fun v h => match v with
    | .d .none => .ok (.d (.bool true)) h
    | _ => .ok (.d (.bool false)) h := by (simp only [evE]) <;> rfl
@[simp] theorem x_isB (n k : Bool) (x : E) : evE b C (.isB n k x) env h = (evE b C x env h).bind fun v h => match v with
    | .d (.bool j) => .ok (.d (.bool (xor n (j == k)))) h
    | _ => .bad := by (simp only [evE]) <;> rfl
@[simp] theorem x_notN (x : E) : evE b C (.notN x) env h = (evE b C x env h).bind fun v h => match v with
    | .d .none => .ok (.d (.bool false)) h
    | _ => .ok (.d (.bool true)) h := by (simp only [evE]) <;> rfl
@[simp] theorem x_lsw (es : Es) : evE b C (.lsw es) env h = (evEs b C es env h).bind fun ws h => .ok (.l h.length) (h ++ [.lsw ws]) := by (simp only [evE]) <;> rfl
@[simp] theorem s_expr (e : E) : evS b C (.expr e) env h = (evE b C e env h).bind fun _ h => .ok (.nx env) h := by (simp only [evS]) <;> rfl
@[simp] theorem kpt_n {α : Type} {h : Hq} {r : R α} : kpt none h r = r := nr rfl
@[simp] theorem kpt_s {α : Type} {n : Nat} {h : Hq} {a : α} : kpt (some n) h (.ok a h) = .ok a h := by simp [kpt, R.bind]
theorem kpt_o {α : Type} {n : Nat} {h h' : Hq} {a : α} (e : h'[n]? = h[n]?) : kpt (some n) h (.ok a h') = .ok a h' := by simp [kpt, R.bind, e]
@[simp] theorem x_nil : evEs b C .nil env h = .ok [] h := by simp only [evEs]
@[simp] theorem x_cons (e : E) (es : Es) : evEs b C (.cons e es) env h = (evE b C e env h).bind fun w h => (evEs b C es env h).bind fun ws h => .ok (w :: ws) h := by simp only [evEs]
@[simp] theorem x_none : evOe b C .none env h = .ok none h := by simp only [evOe]
@[simp] theorem x_some (e : E) : evOe b C (.some e) env h = (evE b C e env h).bind fun w h => .ok (some w) h := by simp only [evOe]
@[simp] theorem x_ite (a : E) : evIt b C (.e a) env h = (evE b C a env h).bind fun w h => match itemsOf h w with
    | some ws => .ok (ws, liveW w) h
    | none => .bad := by (simp only [evIt]) <;> rfl
@[simp] theorem x_rg1 (a : E) : evIt b C (.rg1 a) env h = (evE b C a env h).bind fun w h => match w with
    | .d (.int n) => if rgOk 0 n then .ok (rangeUp 0 n, none) h else .bad
    | _ => .bad := by (simp only [evIt]) <;> rfl
@[simp] theorem x_rg2 (a c : E) : evIt b C (.rg2 a c) env h = (evE b C a env h).bind fun w h => (evE b C c env h).bind fun v h => match w, v with
    | .d (.int n), .d (.int k) => if rgOk n k then .ok (rangeUp n k, none) h else .bad
    | _, _ => .bad := by (simp only [evIt]) <;> rfl
@[simp] theorem x_rgd (a c : E) : evIt b C (.rgd a c) env h = (evE b C a env h).bind fun w h => (evE b C c env h).bind fun v h => match w, v with
    | .d (.int n), .d (.int k) => if rgOk k n then .ok (rangeDn n k, none) h else .bad
    | _, _ => .bad := by (simp only [evIt]) <;> rfl
@[simp] theorem s_asg (t : List Nat) (u : Bool) (e : E) : evS b C (.asg t u e) env h = (evE b C e env h).bind fun w h => match bindT t u w env with
    | some env => .ok (.nx env) h
    | none => .bad := by (simp only [evS]) <;> rfl
@[simp] theorem s_set (o i e : E) : evS b C (.set o i e) env h = (evE b C e env h).bind fun v h => (evE b C o env h).bind fun w h => (evE b C i env h).bind fun k h => (evSet b w k v h).bind fun _ h => .ok (.nx env) h := by (simp only [evS]) <;> rfl
@[simp] theorem s_app (o e : E) : evS b C (.app o e) env h = (evE b C o env h).bind fun w h => if recvL h w then (evE b C e env h).bind fun v h => (evApp b w v h).bind fun _ h => .ok (.nx env) h else .bad := by (simp only [evS]) <;> rfl
@[simp] theorem s_ret (e : E) : evS b C (.ret e) env h = (evE b C e env h).bind fun w h => .ok (.rt w) h := by (simp only [evS]) <;> rfl
@[simp] theorem s_retN : evS b C .retN env h = .ok (.rt (.d .none)) h := by (simp only [evS]) <;> rfl
@[simp] theorem s_ifs (c : E) (x y : Ss) : evS b C (.ifs c x y) env h = (evE b C c env h).bind fun v h => match v with
    | .d (.bool true) => evSs b C x env h
    | .d (.bool false) => evSs b C y env h
    | _ => .bad := by (simp only [evS]) <;> rfl
theorem s_for (t : List Nat) (u : Bool) (it : It) (s : Ss) : evS b C (.forS t u it s) env h = (evIt b C it env h).bind fun ws h => forGo (fun w env h => kpt ws.2 h (match bindT t u w env with
    | some env => evSs b C s env h
    | none => .bad)) ws.1 env h := by (simp only [evS]) <;> rfl
@[simp] theorem s_whl (n : Nat) (c : E) (s : Ss) : evS b C (.whl n c s) env h = whlGo (fun env h => evE b C c env h) (fun env h => evSs b C s env h) n env h := by (simp only [evS]) <;> rfl
@[simp] theorem s_pass : evS b C .pass env h = .ok (.nx env) h := by (simp only [evS]) <;> rfl
@[simp] theorem s_brk : evS b C .brk env h = .ok (.bk env) h := by (simp only [evS]) <;> rfl
@[simp] theorem s_cnt : evS b C .cnt env h = .ok (.ct env) h := by (simp only [evS]) <;> rfl
@[simp] theorem s_frz (i : Nat) : evS b C (.frz i) env h = evFrz i env h := by (simp only [evS]) <;> rfl
@[simp] theorem s_nil : evSs b C .nil env h = .ok (.nx env) h := by (simp only [evSs]) <;> rfl
@[simp] theorem s_cons (s : S) (ss : Ss) : evSs b C (.cons s ss) env h = (evS b C s env h).bind fun q h => match q with
    | .nx env => evSs b C ss env h
    | q => .ok q h := by (simp only [evSs]) <;> rfl
end
/-- a def's body, its end -/
def finR (tr : Bool) (n : Nat) : R Fl → R W
  | .ok (.nx _) h' => fin tr n (.d .none) h'
  | .ok (.rt w) h' => fin tr n w h'
  | .ok _ _ => .bad
  | .ex c ds h' => .ex c ds (if tr then h'.take n else h')
  | .bad => .bad
theorem call_of {T : List FD} {n b f : Nat} {fd : FD} (ws : List W) (h : Hq) (e : T[f]? = some fd) (l : ws.length = fd.np) :
    callN T (n + 1) b f ws h = finR fd.tr h.length (evSs (if fd.tr then h.length else b) (callN T n) fd.body (ws.map some ++ List.replicate (fd.ns - fd.np) none) h) := by
  simp only [callN, e, runF, if_pos l]
  cases evSs (if fd.tr then h.length else b) (callN T n) fd.body (ws.map some ++ List.replicate (fd.ns - fd.np) none) h with
  | ok f h => cases f <;> rfl
  | ex _ _ _ => rfl
  | bad => rfl
@[simp] theorem finR_ex {tr : Bool} {n c : Nat} {ds : List PyData} {h : Hq} : finR tr n (.ex c ds h) = .ex c ds (if tr then h.take n else h) := nr rfl
@[simp] theorem finR_rt {tr : Bool} {n : Nat} {w : W} {h : Hq} : finR tr n (.ok (.rt w) h) = fin tr n w h := nr rfl
@[simp] theorem finR_nx {tr : Bool} {n : Nat} {w : Vars} {h : Hq} : finR tr n (.ok (.nx w) h) = fin tr n (.d .none) h := nr rfl
@[simp] theorem fin_f {n : Nat} {w : W} {h : Hq} : fin false n w h = .ok w h := nr rfl
@[simp] theorem fin_t {n : Nat} {x : PyData} {h : Hq} : fin true n (.d x) h = .ok (.d x) (h.take n) := nr rfl

/-- a loop that runs to its end -/
theorem forGo_ok {f : W → Vars → Hq → R Fl} (I : Nat → Vars → Hq → Prop) : ∀ (ws : List W) (k : Nat) (env : Vars) (h : Hq), I k env h → (∀ j w env h, ws[j]? = some w → I (k + j) env h → ∃ env' h', f w env h = .ok (.nx env') h' ∧ I (k + j + 1) env' h') →
    ∃ env' h', forGo f ws env h = .ok (.nx env') h' ∧ I (k + ws.length) env' h'
  | [], k, env, h, i, _ => ⟨env, h, rfl, i⟩
  | w :: ws, k, env, h, i, st => by
    obtain ⟨env1, h1, e1, i1⟩ := st 0 w env h rfl i
    obtain ⟨env2, h2, e2, i2⟩ := forGo_ok I ws (k + 1) env1 h1 (by simpa using i1) (fun j w env h e i => by
      have := st (j + 1) w env h (by simpa using e) (by rw [show k + (j + 1) = k + 1 + j by omega]; exact i)
      rw [show k + 1 + j + 1 = k + (j + 1) + 1 by omega]
      exact this)
    refine ⟨env2, h2, ?_, by rw [List.length_cons, show k + (ws.length + 1) = k + 1 + ws.length by omega]; exact i2⟩
    simp only [forGo, e1, b_ok, e2]
/-- the same, the place not asked -/
theorem forGo_inv {f : W → Vars → Hq → R Fl} (I : Vars → Hq → Prop) (ws : List W) (env : Vars) (h : Hq) (i : I env h) (st : ∀ w env h, w ∈ ws → I env h → ∃ env' h', f w env h = .ok (.nx env') h' ∧ I env' h') :
    ∃ env' h', forGo f ws env h = .ok (.nx env') h' ∧ I env' h' :=
  forGo_ok (fun _ => I) ws 0 env h i fun j w env h e i => st w env h (List.mem_of_getElem? e) i
/-- a comprehension whose turns leave the heap alone -/
theorem lcGo_pure {f : W → Hq → R (Option W)} {h : Hq} (g : W → Option W) : ∀ (ws : List W), (∀ w ∈ ws, f w h = .ok (g w) h) → lcGo f ws h = .ok (ws.filterMap g) h
  | [], _ => rfl
  | w :: ws, e => by
    simp only [lcGo, e w List.mem_cons_self, b_ok, lcGo_pure g ws fun w hw => e w (List.mem_cons_of_mem _ hw), List.filterMap_cons]
    cases g w <;> rfl
theorem rangeUp_at {lo hi : Int} {j : Nat} {w : W} (e : (rangeUp lo hi)[j]? = some w) : w = .d (.int (lo + j)) ∧ (j : Int) < hi - lo := by
  unfold rangeUp at e
  rw [List.getElem?_map] at e
  cases q : (List.range (hi - lo).toNat)[j]? with
  | none => rw [q] at e; cases e
  | some i =>
    rw [q] at e
    cases e
    obtain ⟨l, rfl⟩ := List.getElem?_eq_some_iff.mp q
    simp only [List.length_range] at l
    simp only [List.getElem_range, true_and]
    omega
theorem rangeUp_mem {lo hi : Int} {w : W} (e : w ∈ rangeUp lo hi) : ∃ i : Int, w = .d (.int i) ∧ lo ≤ i ∧ i < hi := by
  obtain ⟨j, e⟩ := List.getElem?_of_mem e
  obtain ⟨e1, e2⟩ := rangeUp_at e
  exact ⟨_, e1, by omega, by omega⟩
@[simp] theorem rangeUp_len {lo hi : Int} : (rangeUp lo hi).length = (hi - lo).toNat := by unfold rangeUp; simp
theorem rg_of {lo hi : Int} (h1 : -1000000 ≤ lo) (h2 : lo ≤ 1000000) (h3 : -1000000 ≤ hi) (h4 : hi ≤ 1000000) : rgOk lo hi = true := by
  unfold rgOk
  rw [decide_eq_true_eq]
  omega
@[simp] theorem last_at {t : Hq} {o : Ob} : (t ++ [o])[t.length]? = some o := by simp
@[simp] theorem last_set {t : Hq} {o o' : Ob} : (t ++ [o]).set t.length o' = t ++ [o'] := by simp
@[simp] theorem last_take {t : Hq} {o : Ob} : (t ++ [o]).take t.length = t := by simp
theorem whl_step {c : Vars → Hq → R W} {f : Vars → Hq → R Fl} {n : Nat} {env env' : Vars} {h h1 h' : Hq} (e1 : c env h = .ok (.d (.bool true)) h1) (e2 : f env h1 = .ok (.nx env') h') : whlGo c f (n + 1) env h = whlGo c f n env' h' := by simp only [whlGo, e1, b_ok, e2]
theorem whl_end {c : Vars → Hq → R W} {f : Vars → Hq → R Fl} {n : Nat} {env : Vars} {h h1 : Hq} (e1 : c env h = .ok (.d (.bool false)) h1) : whlGo c f (n + 1) env h = .ok (.nx env) h1 := by simp only [whlGo, e1, b_ok]
theorem whl_ret {c : Vars → Hq → R W} {f : Vars → Hq → R Fl} {n : Nat} {env : Vars} {w : W} {h h1 h' : Hq} (e1 : c env h = .ok (.d (.bool true)) h1) (e2 : f env h1 = .ok (.rt w) h') : whlGo c f (n + 1) env h = .ok (.rt w) h' := by simp only [whlGo, e1, b_ok, e2]
end Ev

/-! EvP2: lemmas on values, to run the terms by simp. -/
namespace Ev
open PySem

section
variable {h : Hq} {i j : Int} {x y : PyData} {xs ys : List PyData} {n : Nat} {w : W} {ws : List W}
@[simp] theorem op2_d {f : PyData → PyData → Option PyData} : op2 f (.d x) (.d y) h = liftO (f x y) h := nr rfl
theorem opM_d {f : PyData → PyData → Option PyData} (e : f x y = some (.list xs)) : opM f (.d x) (.d y) h = .ok (.l h.length) (h ++ [.lst xs]) := by simp only [opM, toD, e]
theorem opM_l {f : PyData → PyData → Option PyData} {ys : List PyData} (e1 : h[n]? = some (.lst ys)) (e : f (.list ys) y = some (.list xs)) : opM f (.l n) (.d y) h = .ok (.l h.length) (h ++ [.lst xs]) := by simp only [opM, toD, e1, e]
@[simp] theorem liftO_s : liftO (some x) h = .ok (.d x) h := nr rfl
@[simp] theorem toD_d : toD h (.d x) = some x := nr rfl
@[simp] theorem toDD_d : toDD h (.d x) = some x := nr rfl
theorem toDD_l (e : h[n]? = some (.lst xs)) : toDD h (.l n) = some (.list xs) := by simp only [toDD, toDn, e]
@[simp] theorem dctOf_d : dctOf h (.d x) = none := nr rfl
theorem dctOf_l (e : h[n]? = some (.lst xs)) : dctOf h (.l n) = none := by simp only [dctOf, e]
theorem dctOf_w (e : h[n]? = some (.lsw ws)) : dctOf h (.l n) = none := by simp only [dctOf, e]
theorem dctOf_k {kvs : List (PyData × PyData)} (e : h[n]? = some (.dct kvs)) : dctOf h (.l n) = some kvs := by simp only [dctOf, e]
@[simp] theorem cmp_d {o : CmpOp} : cmpW o (.d x) (.d y) h = liftO (evCmp o x y) h := by simp only [cmpW, dctOf_d, toDD_d]
theorem cmp_dl {o : CmpOp} (e : h[n]? = some (.lst xs)) : cmpW o (.d x) (.l n) h = liftO (evCmp o x (.list xs)) h := by simp only [cmpW, dctOf_l e, toDD_d, toDD_l e]
theorem cmp_ld {o : CmpOp} (e : h[n]? = some (.lst xs)) : cmpW o (.l n) (.d y) h = liftO (evCmp o (.list xs) y) h := by simp only [cmpW, dctOf_d, toDD_d, toDD_l e]
theorem cmp_in {kvs : List (PyData × PyData)} (e : h[n]? = some (.dct kvs)) (k : isKey x = true) : cmpW .In (.d x) (.l n) h = .ok (.d (.bool (dget kvs x).isSome)) h := by simp only [cmpW, dctOf_k e, k, if_true]
theorem cmp_nin {kvs : List (PyData × PyData)} (e : h[n]? = some (.dct kvs)) (k : isKey x = true) : cmpW .NotIn (.d x) (.l n) h = .ok (.d (.bool (!(dget kvs x).isSome))) h := by simp only [cmpW, dctOf_k e, k, if_true]
theorem dct_at {kvs : List (PyData × PyData)} (e : h[n]? = some (.dct kvs)) (k : isKey x = true) (g : dget kvs x = some y) : evIdx h (.l n) (.d x) = .ok (.d y) h := by
  cases x <;> simp only [isKey, Bool.false_eq_true] at k
  simp only [evIdx, e, isKey, k, if_true, g]
  rfl
theorem dct_set {kvs : List (PyData × PyData)} {b : Nat} (e : h[n]? = some (.dct kvs)) (k : isKey x = true) (l : kvs.length < 1000000) : evSet b (.l n) (.d x) (.d y) h = .ok () (h.set n (.dct (dput kvs x y))) := by
  cases x <;> simp only [isKey, Bool.false_eq_true] at k
  have l' : decide (kvs.length < 1000000) = true := decide_eq_true l
  simp only [evSet, e, isKey, k, l', Bool.true_and, if_true]
theorem dct_get {kvs : List (PyData × PyData)} (e : h[n]? = some (.dct kvs)) (k : isKey x = true) : evM .get (.l n) [.d x, .d y] h = .ok (.d ((dget kvs x).getD y)) h := by
  simp only [evM, dctOf_k e, k, if_true]
  cases dget kvs x <;> rfl
theorem dctOf_i {kvs : List (Int × PyData)} (e : h[n]? = some (.dki kvs)) : dctOf h (.l n) = none := by simp only [dctOf, e]
theorem dki_in {kvs : List (Int × PyData)} {i : Int} (e : h[n]? = some (.dki kvs)) : cmpW .In (.d (.int i)) (.l n) h = .ok (.d (.bool (iget kvs i).isSome)) h := by simp only [cmpW, dctOf_i e, toDD_d, toDD, toDn, e, cmpI, dkiOf]
theorem dki_nin {kvs : List (Int × PyData)} {i : Int} (e : h[n]? = some (.dki kvs)) : cmpW .NotIn (.d (.int i)) (.l n) h = .ok (.d (.bool (!(iget kvs i).isSome))) h := by simp only [cmpW, dctOf_i e, toDD_d, toDD, toDn, e, cmpI, dkiOf]
theorem dki_at {kvs : List (Int × PyData)} {i : Int} (e : h[n]? = some (.dki kvs)) (g : iget kvs i = some y) : evIdx h (.l n) (.d (.int i)) = .ok (.d y) h := by
  simp only [evIdx, e, g]
  rfl
theorem dki_set {kvs : List (Int × PyData)} {i : Int} {b : Nat} (e : h[n]? = some (.dki kvs)) (l : kvs.length < 1000000) : evSet b (.l n) (.d (.int i)) (.d y) h = .ok () (h.set n (.dki (iput kvs i y))) := by
  simp only [evSet, e, l, if_true]
theorem toD_l (e : h[n]? = some (.lst xs)) : toD h (.l n) = some (.list xs) := by simp only [toD, e]
theorem op2_dl {f : PyData → PyData → Option PyData} (e : h[n]? = some (.lst xs)) : op2 f (.d x) (.l n) h = liftO (f x (.list xs)) h := by unfold op2; rw [toD_l e]; rfl
@[simp] theorem add_i : evBin .Add (.int i) (.int j) = some (.int (i + j)) := nr rfl
@[simp] theorem sub_i : evBin .Sub (.int i) (.int j) = some (.int (i - j)) := nr rfl
theorem mul_i (e : sOk i j = true) : evBin .Mult (.int i) (.int j) = some (.int (i * j)) := by simp only [evBin, e, if_true]
theorem sOk_r (h1 : -1000000000000 ≤ j) (h2 : j ≤ 1000000000000) : sOk i j = true := by unfold sOk; rw [decide_eq_true_eq]; omega
theorem sOk_l (h1 : -1000000000000 ≤ i) (h2 : i ≤ 1000000000000) : sOk i j = true := by unfold sOk; rw [decide_eq_true_eq]; omega
theorem div_i (e : divOk j = true) : evBin .FloorDiv (.int i) (.int j) = some (.int (i.fdiv j)) := by simp only [evBin, e, if_true]
theorem divOk_of (h1 : 0 < j) (h2 : j ≤ 1000000) : divOk j = true := by unfold divOk; rw [decide_eq_true_eq]; omega
theorem mod_i (e : j ≠ 0) : evBin .Mod (.int i) (.int j) = some (.int (i.fmod j)) := by simp only [evBin]; rw [if_pos e]
@[simp] theorem div_k (h1 : 0 < j) (h2 : j ≤ 1000000) : evBin .FloorDiv (.int i) (.int j) = some (.int (i.fdiv j)) := div_i (divOk_of h1 h2)
@[simp] theorem mod_k (h1 : 0 < j) : evBin .Mod (.int i) (.int j) = some (.int (i.fmod j)) := mod_i (Int.ne_of_gt h1)
@[simp] theorem mul_r (h1 : -1000000000000 ≤ j) (h2 : j ≤ 1000000000000) : evBin .Mult (.int i) (.int j) = some (.int (i * j)) := mul_i (sOk_r h1 h2)
@[simp] theorem mul_l (h1 : -1000000000000 ≤ i) (h2 : i ≤ 1000000000000) : evBin .Mult (.int i) (.int j) = some (.int (i * j)) := mul_i (sOk_l h1 h2)
@[simp] theorem pow_18 : evBin .Pow (.int 10) (.int 18) = some (.int 1000000000000000000) := nr rfl
@[simp] theorem lt_i : evCmp .Lt (.int i) (.int j) = some (.bool (decide (i < j))) := nr rfl
@[simp] theorem le_i : evCmp .LtE (.int i) (.int j) = some (.bool (decide (i ≤ j))) := nr rfl
@[simp] theorem gt_i : evCmp .Gt (.int i) (.int j) = some (.bool (decide (j < i))) := nr rfl
@[simp] theorem ge_i : evCmp .GtE (.int i) (.int j) = some (.bool (decide (j ≤ i))) := nr rfl
@[simp] theorem dpt_i : dpt (.int i) = true := nr rfl
@[simp] theorem dpt_b {k : Bool} : dpt (.bool k) = true := nr rfl
@[simp] theorem dpt_n : dpt .none = true := nr rfl
@[simp] theorem dpt_s {s : Str} : dpt (.str s) = true := nr rfl
@[simp] theorem eq_d (e : (dpt x || dpt y) = true) : evCmp .Eq x y = some (.bool (PyData.eqv x y)) := by simp only [evCmp, e, if_true]
@[simp] theorem ne_d (e : (dpt x || dpt y) = true) : evCmp .NotEq x y = some (.bool (!PyData.eqv x y)) := by simp only [evCmp, e, if_true]
@[simp] theorem eqv_i : PyData.eqv (.int i) (.int j) = decide (i = j) := by simp only [PyData.eqv]; exact rfl
@[simp] theorem eqv_s {s t : Str} : PyData.eqv (.str s) (.str t) = decide (s = t) := by simp only [PyData.eqv]; exact rfl
@[simp] theorem in_l (e : dpt x = true) : evCmp .In x (.list ys) = some (.bool (ys.any fun y => PyData.eqv y x)) := by simp only [evCmp, e, if_true]
@[simp] theorem in_t (e : dpt x = true) : evCmp .In x (.tuple ys) = some (.bool (ys.any fun y => PyData.eqv y x)) := by simp only [evCmp, e, if_true]
@[simp] theorem nin_l (e : dpt x = true) : evCmp .NotIn x (.list ys) = some (.bool (!ys.any fun y => PyData.eqv y x)) := by simp only [evCmp, e, if_true]
@[simp] theorem nin_t (e : dpt x = true) : evCmp .NotIn x (.tuple ys) = some (.bool (!ys.any fun y => PyData.eqv y x)) := by simp only [evCmp, e, if_true]
theorem atZ_nat {α : Type} {l : List α} {k : Nat} : atZ l (k : Int) = l[k]? := by
  unfold atZ L2.atI L2.ixN
  by_cases hk : k < l.length
  · rw [if_pos (by omega), if_pos (by omega)]; simp
  · rw [if_pos (by omega), if_neg (by omega), List.getElem?_eq_none (by omega)]; rfl
theorem atZ_int {α : Type} {l : List α} {k : Int} (e : 0 ≤ k) : atZ l k = l[k.toNat]? := by
  obtain ⟨m, rfl⟩ := Int.eq_ofNat_of_zero_le e
  exact atZ_nat
@[simp] theorem atZ_0 {α : Type} {l : List α} : atZ l 0 = l[0]? := atZ_nat (k := 0)
@[simp] theorem atZ_1 {α : Type} {l : List α} : atZ l 1 = l[1]? := atZ_nat (k := 1)
@[simp] theorem atZ_2 {α : Type} {l : List α} : atZ l 2 = l[2]? := atZ_nat (k := 2)
@[simp] theorem atZ_3 {α : Type} {l : List α} : atZ l 3 = l[3]? := atZ_nat (k := 3)
@[simp] theorem idx_l : evIdx h (.d (.list xs)) (.d (.int i)) = liftO (atZ xs i) h := nr rfl
@[simp] theorem idx_t : evIdx h (.d (.tuple xs)) (.d (.int i)) = liftO (atZ xs i) h := nr rfl
theorem idx_o (e : h[n]? = some (.lst xs)) : evIdx h (.l n) (.d (.int i)) = liftO (atZ xs i) h := by simp only [evIdx, e]
@[simp] theorem idx_o0 {t : Hq} : evIdx (.lst xs :: t) (.l 0) (.d (.int i)) = liftO (atZ xs i) (.lst xs :: t) := idx_o rfl
theorem set_o (e : h[n]? = some (.lst xs)) {k : Nat} (ek : L2.ixN xs.length i = some k) {b : Nat} : evSet b (.l n) (.d (.int i)) (.d x) h = .ok () (h.set n (.lst (xs.set k x))) := by simp only [evSet, e, ek]
@[simp] theorem set_b {t : Hq} {b : Nat} : evSet b (.l 0) (.d (.int 1)) (.d x) (.lst [y, w'] :: t) = .ok () (.lst [y, x] :: t) := nr rfl
@[simp] theorem len_l : evB .len [.d (.list xs)] h = .ok (.d (.int xs.length)) h := nr rfl
@[simp] theorem len_t : evB .len [.d (.tuple xs)] h = .ok (.d (.int xs.length)) h := nr rfl
theorem len_o (e : h[n]? = some (.lst xs)) : evB .len [.l n] h = .ok (.d (.int xs.length)) h := by simp only [evB, evLen, e]
@[simp] theorem int_i : evB .int [.d (.int i)] h = .ok (.d (.int i)) h := nr rfl
@[simp] theorem int_b {k : Bool} : evB .int [.d (.bool k)] h = .ok (.d (.int (if k then 1 else 0))) h := nr rfl
@[simp] theorem tup_l : evB .tuple [.d (.list xs)] h = .ok (.d (.tuple xs)) h := nr rfl
@[simp] theorem tup_t : evB .tuple [.d (.tuple xs)] h = .ok (.d (.tuple xs)) h := nr rfl
theorem tup_o (e : h[n]? = some (.lst xs)) : evB .tuple [.l n] h = .ok (.d (.tuple xs)) h := by simp only [evB, toD, e]; rfl
theorem app_o {b : Nat} (e : h[n]? = some (.lst xs)) (hl : xs.length < 1000000) : evApp b (.l n) (.d x) h = .ok () (h.set n (.lst (xs ++ [x]))) := by
  simp only [evApp, e]
  rw [if_pos (by unfold SZ; omega)]
theorem recvL_o (e : h[n]? = some (.lst xs)) : recvL h (.l n) = true := by simp only [recvL, e]
@[simp] theorem it_l : itemsOf h (.d (.list xs)) = some (xs.map .d) := nr rfl
theorem it_o (e : h[n]? = some (.lst xs)) : itemsOf h (.l n) = some (xs.map .d) := by simp only [itemsOf, e]
theorem it_w (e : h[n]? = some (.lsw ws)) : itemsOf h (.l n) = some ws := by simp only [itemsOf, e]
@[simp] theorem live_d : liveW (.d x) = none := nr rfl
@[simp] theorem live_l : liveW (.l n) = some n := nr rfl
@[simp] theorem it_t : itemsOf h (.d (.tuple xs)) = some (xs.map .d) := nr rfl
@[simp] theorem bind_1 {k : Nat} {env : Vars} : bindT [k] false w env = some (env.set k (some w)) := nr rfl
@[simp] theorem allD_0 : allD [] = some [] := nr rfl
@[simp] theorem allD_c : allD (.d x :: ws) = (allD ws).map (x :: ·) := nr rfl
theorem allD_map : allD (xs.map .d) = some xs := by
  induction xs with
  | nil => rfl
  | cons x xs ih => simp only [List.map_cons, allD, ih]; rfl
@[simp] theorem c_at {o o' : Ob} {t : Hq} : (o :: (t ++ [o']))[t.length + 1]? = some o' := by simp
@[simp] theorem noEx_ok {α : Type} {a : α} : noEx (.ok a h) = .ok a h := nr rfl
theorem allD_mapf {α : Type} {g : α → PyData} : ∀ l : List α, allD (l.map fun x => W.d (g x)) = some (l.map g)
  | [] => rfl
  | x :: l => by simp only [List.map_cons, allD, allD_mapf l]; rfl
theorem allD_comp {α : Type} {g : α → PyData} (l : List α) : allD (l.map (W.d ∘ g)) = some (l.map g) := allD_mapf l
theorem lcEnd_0 {ds : List PyData} (e : allD ws = some ds) : lcEnd 0 ws h = .ok (.d (.list ds)) h := by simp only [lcEnd, e]
@[simp] theorem lcEnd_m {α : Type} {g : α → PyData} {l : List α} : lcEnd 0 (l.map fun x => W.d (g x)) h = .ok (.d (.list (l.map g))) h := lcEnd_0 (allD_mapf l)
@[simp] theorem lcEnd_c {α : Type} {g : α → PyData} {l : List α} : lcEnd 0 (l.map (W.d ∘ g)) h = .ok (.d (.list (l.map g))) h := lcEnd_0 (allD_mapf l)
@[simp] theorem boolO_n : boolO none = some true := nr rfl
@[simp] theorem boolO_b {k : Bool} : boolO (some (.d (.bool k))) = some k := nr rfl
/-- a comprehension that filters -/
theorem lc_filter {α : Type} {f : W → Hq → R (Option W)} {emb : α → W} {g : α → W} {p : α → Bool} : ∀ (l : List α), (∀ x ∈ l, f (emb x) h = .ok (if p x then some (g x) else none) h) → lcGo f (l.map emb) h = .ok ((l.filter p).map g) h
  | [], _ => rfl
  | x :: l, e => by
    simp only [List.map_cons, lcGo, e x List.mem_cons_self, b_ok, lc_filter l fun y hy => e y (List.mem_cons_of_mem _ hy), List.filter_cons]
    cases p x <;> rfl
/-- a comprehension that maps -/
theorem lc_map {α : Type} {f : W → Hq → R (Option W)} {emb : α → W} {g : α → W} : ∀ (l : List α), (∀ x ∈ l, f (emb x) h = .ok (some (g x)) h) → lcGo f (l.map emb) h = .ok (l.map g) h
  | [], _ => rfl
  | x :: l, e => by
    simp only [List.map_cons, lcGo, e x List.mem_cons_self, b_ok, lc_map l fun y hy => e y (List.mem_cons_of_mem _ hy)]
@[simp] theorem any_int {l : List Int} : ((l.map PyData.int).any fun y => PyData.eqv y (.int i)) = decide (i ∈ l) := by
  rw [Bool.eq_iff_iff]
  simp
@[simp] theorem any_str {l : List Str} {s : Str} : ((l.map PyData.str).any fun y => PyData.eqv y (.str s)) = decide (s ∈ l) := by
  rw [Bool.eq_iff_iff]
  simp
@[simp] theorem any_int' {l : List Int} : (l.any ((fun y => PyData.eqv y (.int i)) ∘ PyData.int)) = decide (i ∈ l) := by
  rw [Bool.eq_iff_iff]
  simp
@[simp] theorem any_str' {l : List Str} {s : Str} : (l.any ((fun y => PyData.eqv y (.str s)) ∘ PyData.str)) = decide (s ∈ l) := by
  rw [Bool.eq_iff_iff]
  simp
theorem cutL_map {α β : Type} {f : α → β} {l : List α} {lo hi : Option Int} : cutL (l.map f) lo hi = (cutL l lo hi).map f := by simp [cutL]
theorem cutL_sub {α : Type} {l : List α} {lo hi : Option Int} : (cutL l lo hi).Sublist l := (List.take_sublist _ _).trans (List.drop_sublist _ _)
@[simp] theorem slc_l {lo hi : Option Int} : evSlc h (.d (.list xs)) lo hi = .ok (.d (.list (cutL xs lo hi))) h := nr rfl
@[simp] theorem rev_l : evRev h (.d (.list xs)) = .ok (.d (.list xs.reverse)) h := nr rfl
@[simp] theorem rev_t : evRev h (.d (.tuple xs)) = .ok (.d (.tuple xs.reverse)) h := nr rfl
@[simp] theorem slc_t {lo hi : Option Int} : evSlc h (.d (.tuple xs)) lo hi = .ok (.d (.tuple (cutL xs lo hi))) h := nr rfl
@[simp] theorem intO_n : intO none = some none := nr rfl
@[simp] theorem intO_i : intO (some (.d (.int i))) = some (some i) := nr rfl
theorem intsOf_map : ∀ l : List Int, intsOf (l.map .int) = some l
  | [] => rfl
  | x :: l => by simp only [List.map_cons, intsOf, intsOf_map l]; rfl
@[simp] theorem add_l (e : xs.length + ys.length ≤ 1000000) : evBin .Add (.list xs) (.list ys) = some (.list (xs ++ ys)) := by simp only [evBin]; rw [if_pos (by unfold SZ; omega)]
@[simp] theorem add_t (e : xs.length + ys.length ≤ 1000000) : evBin .Add (.tuple xs) (.tuple ys) = some (.tuple (xs ++ ys)) := by simp only [evBin]; rw [if_pos (by unfold SZ; omega)]
@[simp] theorem add_s {s t : Str} (e : s.length + t.length ≤ 1000000) : evBin .Add (.str s) (.str t) = some (.str (s ++ t)) := by simp only [evBin]; rw [if_pos (by unfold SZ; omega)]
@[simp] theorem listInts_m {l : List Int} : listInts (.list (l.map .int)) = some l := intsOf_map l
theorem sortP_i {l : List Int} : sortP (l.map .int) = some ((sortI l).map .int) := by simp only [sortP, intsOf_map]
theorem maxP_i {l : List Int} : maxP (l.map .int) = (maxI l).map .int := by simp only [maxP, intsOf_map]
theorem minP_i {l : List Int} : minP (l.map .int) = (minI l).map .int := by simp only [minP, intsOf_map]
theorem sorted_o {l : List Int} (e : h[n]? = some (.lst (l.map .int))) : evB .sorted [.l n] h = .ok (.d (.list ((sortI l).map .int))) h := by
  simp only [evB, toD_l e, Option.bind_some, seqOf, sortP_i, Option.map_some, liftO_s]
@[simp] theorem sorted_d {l : List Int} : evB .sorted [.d (.list (l.map .int))] h = .ok (.d (.list ((sortI l).map .int))) h := by
  simp only [evB, toD_d, Option.bind_some, seqOf, sortP_i, Option.map_some, liftO_s]
@[simp] theorem sorted_t {l : List Int} : evB .sorted [.d (.tuple (l.map .int))] h = .ok (.d (.list ((sortI l).map .int))) h := by
  simp only [evB, toD_d, Option.bind_some, seqOf, sortP_i, Option.map_some, liftO_s]
theorem max_d {l : List Int} {m : Int} (e : maxI l = some m) : evB .max [.d (.list (l.map .int))] h = .ok (.d (.int m)) h := by
  simp only [evB, toD_d, Option.bind_some, seqOf, maxP_i, e, Option.map_some, liftO_s]
theorem max_t {l : List Int} {m : Int} (e : maxI l = some m) : evB .max [.d (.tuple (l.map .int))] h = .ok (.d (.int m)) h := by
  simp only [evB, toD_d, Option.bind_some, seqOf, maxP_i, e, Option.map_some, liftO_s]
theorem min_d {l : List Int} {m : Int} (e : minI l = some m) : evB .min [.d (.list (l.map .int))] h = .ok (.d (.int m)) h := by
  simp only [evB, toD_d, Option.bind_some, seqOf, minP_i, e, Option.map_some, liftO_s]
@[simp] theorem mem_sortI {l : List Int} : i ∈ sortI l ↔ i ∈ l := by simp [sortI]
theorem rangeDn_at {lo hi : Int} {j : Nat} {w : W} (e : (rangeDn hi lo)[j]? = some w) : w = .d (.int (hi - j)) ∧ (j : Int) < hi - lo := by
  unfold rangeDn at e
  rw [List.getElem?_map] at e
  cases q : (List.range (hi - lo).toNat)[j]? with
  | none => rw [q] at e; cases e
  | some i =>
    rw [q] at e
    cases e
    obtain ⟨l, rfl⟩ := List.getElem?_eq_some_iff.mp q
    simp only [List.length_range] at l
    simp only [List.getElem_range, true_and]
    omega
@[simp] theorem rangeDn_len {lo hi : Int} : (rangeDn hi lo).length = (hi - lo).toNat := by unfold rangeDn; simp
theorem eqvAll_ints : ∀ {l l' : List Int}, PyData.eqvAll (l.map .int) (l'.map .int) = decide (l = l')
  | [], [] => by simp [PyData.eqvAll]
  | [], _ :: _ => by simp [PyData.eqvAll]
  | _ :: _, [] => by simp [PyData.eqvAll]
  | x :: l, y :: l' => by
    simp only [List.map_cons, PyData.eqvAll, eqv_i, eqvAll_ints]
    by_cases h : x = y <;> simp [h]
@[simp] theorem eqv_ti {l l' : List Int} : PyData.eqv (.tuple (l.map .int)) (.tuple (l'.map .int)) = decide (l = l') := by simp only [PyData.eqv, eqvAll_ints]
@[simp] theorem eqv_li {l l' : List Int} : PyData.eqv (.list (l.map .int)) (.list (l'.map .int)) = decide (l = l') := by simp only [PyData.eqv, eqvAll_ints]
theorem depthAll_ints : ∀ {l : List Int}, PyData.depthAll (l.map .int) ≤ 1
  | [] => by simp [PyData.depthAll]
  | x :: l => by
    have := depthAll_ints (l := l)
    simp only [List.map_cons, PyData.depthAll, PyData.depth]
    omega
@[simp] theorem dpt_ti {l : List Int} : dpt (.tuple (l.map .int)) = true := by
  unfold dpt
  have := depthAll_ints (l := l)
  refine decide_eq_true ?_
  simp only [PyData.depth]
  omega
@[simp] theorem dpt_li {l : List Int} : dpt (.list (l.map .int)) = true := by
  unfold dpt
  have := depthAll_ints (l := l)
  refine decide_eq_true ?_
  simp only [PyData.depth]
  omega
@[simp] theorem dpt_l0 : dpt (.list []) = true := dpt_li (l := [])
@[simp] theorem eqv_l0 {l : List PyData} : PyData.eqv (.list l) (.list []) = l.isEmpty := by cases l <;> simp [PyData.eqv, PyData.eqvAll]
@[simp] theorem listInts_f {α : Type} {l : List α} {f : α → Int} : listInts (.list (l.map fun a => .int (f a))) = some (l.map f) := by
  have := intsOf_map (l.map f)
  rw [List.map_map] at this
  exact this
theorem cut_take {α : Type} {l : List α} {k : Nat} : cutL l none (some (k : Int)) = l.take k := by
  unfold cutL
  rw [HT.sIx_none, HT.sIx_nat]
  simp
/-- a loop that may return v -/
theorem forGo_all {f : W → Vars → Hq → R Fl} (I : Vars → Prop) (p : W → Bool) (v : W) : ∀ (ws : List W) (env : Vars), I env →
    (∀ w env, w ∈ ws → I env → (p w = true → ∃ env', f w env h = .ok (.nx env') h ∧ I env') ∧ (p w = false → f w env h = .ok (.rt v) h)) →
    (ws.all p = true → ∃ env', forGo f ws env h = .ok (.nx env') h ∧ I env') ∧ (ws.all p = false → forGo f ws env h = .ok (.rt v) h)
  | [], env, i, _ => ⟨fun _ => ⟨env, rfl, i⟩, fun z => by simp at z⟩
  | w :: ws, env, i, st => by
    obtain ⟨s1, s2⟩ := st w env List.mem_cons_self i
    cases e : p w with
    | false =>
      refine ⟨fun z => by simp [e] at z, fun _ => ?_⟩
      simp only [forGo, s2 e, b_ok]
    | true =>
      obtain ⟨env', e1, i1⟩ := s1 e
      obtain ⟨t1, t2⟩ := forGo_all I p v ws env' i1 fun w env hw => st w env (List.mem_cons_of_mem _ hw)
      simp only [List.all_cons, e, Bool.true_and]
      refine ⟨fun z => ?_, fun z => ?_⟩
      · obtain ⟨env2, e2, i2⟩ := t1 z
        exact ⟨env2, by simp only [forGo, e1, b_ok, e2], i2⟩
      · simp only [forGo, e1, b_ok, t2 z]
end
end Ev

/-! EvP3: how long a shown thing is; keys; more to run the terms by simp. -/
namespace Ev
open PySem

/-- shown with at most k signs, at most j deep -/
structure Sm (k j : Nat) (d : PyData) : Prop where
  sh : d.showable = true
  dp : d.depth ≤ j
  len : d.shown.length ≤ k
theorem Sm.mono {k j k' j' : Nat} {d : PyData} (s : Sm k j d) (h : k ≤ k') (h' : j ≤ j') : Sm k' j' d := ⟨s.sh, Nat.le_trans s.dp h', Nat.le_trans s.len h⟩
theorem sm_none : Sm 41 0 .none := ⟨rfl, by simp [PyData.depth], by decide +kernel⟩
theorem sm_bool {b : Bool} : Sm 41 0 (.bool b) := ⟨rfl, by simp [PyData.depth], by cases b <;> decide +kernel⟩
theorem sm_int {i : Int} (h : i.natAbs < 10 ^ 40) : Sm 41 0 (.int i) := by
  refine ⟨?_, by simp [PyData.depth], ?_⟩
  · simp only [PyData.showable, decide_eq_true_eq]
    by_cases e : i.natAbs = 0
    · rw [e]; decide
    · refine (Nat.log2_lt e).mpr (Nat.lt_trans h (by decide +kernel))
  · show (Str.ofString (toString i)).length ≤ 41
    rw [ofString_length]
    exact int_text_length_le10 (by decide) h
theorem sm_str {s : Str} (h : ∀ c ∈ s.cps.toList, c < 16 ^ 8) : Sm (10 * s.length + 2) 0 (.str s) := ⟨rfl, by simp [PyData.depth], by
  have := StrLaws.reprText_len s h
  simp only [PyData.shown]
  omega⟩
theorem join_len (ts : List Str) : (Str.join ", " ts).length ≤ piled ts := by
  by_cases h : ts = []
  · subst h; decide +kernel
  · have := join_length_add ts h
    omega
theorem textFrom_le : ∀ (ts : List Str) (k : Nat) (acc : Str), (textFrom k acc ts).length ≤ acc.length + piled ts
  | [], k, acc => by show acc.length ≤ acc.length + 0; omega
  | t :: r, k, acc => by
    have ih := textFrom_le r (k + 1) (acc ++ (if k > 0 then ", " else "" : String) ++ t)
    have e : (acc ++ (if k > 0 then ", " else "" : String) ++ t).length ≤ acc.length + 2 + t.length := by
      rw [strLen_append, strLen_append]
      split
      · have : ((", " : String) : Str).length = 2 := rfl
        omega
      · have : (("" : String) : Str).length = 0 := rfl
        omega
    rw [piled_cons]
    show (textFrom (k + 1) _ r).length ≤ _
    omega
theorem piled_le {k : Nat} : ∀ {ds : List PyData}, (∀ d ∈ ds, d.shown.length ≤ k) → piled (PyData.shownAll ds) ≤ ds.length * (k + 2)
  | [], _ => by simp [PyData.shownAll, piled]
  | d :: ds, h => by
    have h1 := h d List.mem_cons_self
    have h2 := piled_le (ds := ds) fun x hx => h x (List.mem_cons_of_mem _ hx)
    simp only [PyData.shownAll, piled_cons, List.length_cons, Nat.add_mul]
    omega
theorem showableAll_of : ∀ {ds : List PyData}, (∀ d ∈ ds, d.showable = true) → PyData.showableAll ds = true
  | [], _ => rfl
  | d :: ds, h => by simp only [PyData.showableAll, h d List.mem_cons_self, showableAll_of fun x hx => h x (List.mem_cons_of_mem _ hx), Bool.and_self]
theorem depthAll_of {j : Nat} : ∀ {ds : List PyData}, (∀ d ∈ ds, d.depth ≤ j) → PyData.depthAll ds ≤ j
  | [], _ => by simp [PyData.depthAll]
  | d :: ds, h => by
    have h1 := h d List.mem_cons_self
    have h2 := depthAll_of (ds := ds) fun x hx => h x (List.mem_cons_of_mem _ hx)
    simp only [PyData.depthAll]
    omega
theorem sm_tup {k j : Nat} {ds : List PyData} (h : ∀ d ∈ ds, Sm k j d) : Sm (ds.length * (k + 2) + 3) (j + 1) (.tuple ds) := by
  refine ⟨by simp only [PyData.showable]; exact showableAll_of fun d hd => (h d hd).sh, ?_, ?_⟩
  · have := depthAll_of fun d hd => (h d hd).dp
    simp only [PyData.depth]; omega
  · have h1 := piled_le fun d hd => (h d hd).len
    have h2 := join_len (PyData.shownAll ds)
    have h3 : ∀ c : Bool, ((if c = true then ",)" else ")" : String) : Str).length ≤ 2 := fun c => by cases c <;> decide +kernel
    have h4 : (("(" : String) : Str).length = 1 := rfl
    have e : (PyData.shown (.tuple ds)).length = (("(" : String) : Str).length + (Str.join ", " (PyData.shownAll ds)).length + ((if ((PyData.shownAll ds).length == 1) = true then ",)" else ")" : String) : Str).length := by
      simp only [PyData.shown, tupleText]
      rw [strLen_append, strLen_append]
    have := h3 ((PyData.shownAll ds).length == 1)
    omega
theorem sm_lst {k j : Nat} {ds : List PyData} (h : ∀ d ∈ ds, Sm k j d) : Sm (ds.length * (k + 2) + 3) (j + 1) (.list ds) := by
  refine ⟨by simp only [PyData.showable]; exact showableAll_of fun d hd => (h d hd).sh, ?_, ?_⟩
  · have := depthAll_of fun d hd => (h d hd).dp
    simp only [PyData.depth]; omega
  · have h1 := piled_le fun d hd => (h d hd).len
    have h2 := textFrom_le (PyData.shownAll ds) 0 "["
    have h4 : (("[" : String) : Str).length = 1 := rfl
    have h5 : (("]" : String) : Str).length = 1 := rfl
    have e : (PyData.shown (.list ds)).length = (textFrom 0 "[" (PyData.shownAll ds)).length + (("]" : String) : Str).length := by
      simp only [PyData.shown, listText]
      rw [strLen_append]
    omega
theorem shownP_of {k j : Nat} {d : PyData} (s : Sm k j d) (h : k ≤ 16777216 := by omega) (h' : j ≤ 150 := by omega) : shownP d = some (.str d.shown) := by
  unfold shownP
  have := s.dp
  have := s.len
  rw [if_pos]
  rw [Bool.and_eq_true, Bool.and_eq_true]
  exact ⟨s.sh, decide_eq_true (by omega), decide_eq_true (by unfold SZ; omega)⟩
theorem repr_d {k j : Nat} {d : PyData} {h : Hq} (s : Sm k j d) (hk : k ≤ 16777216 := by omega) (hj : j ≤ 150 := by omega) : evB .repr [.d d] h = .ok (.d (.str d.shown)) h := by
  simp only [evB, toDD_d, Option.bind_some, shownP_of s hk hj, liftO_s]

/-! ### small data -/
/-- small numbers in a row -/
theorem sm_ints {l : List Int} {n : Nat} (hn : l.length ≤ n) (h : ∀ x ∈ l, x.natAbs < 10 ^ 40) : Sm (43 * n + 3) 1 (.tuple (l.map .int)) := by
  have : Sm ((l.map PyData.int).length * (41 + 2) + 3) 1 (.tuple (l.map .int)) := sm_tup fun d hd => by
    obtain ⟨x, hx, rfl⟩ := List.mem_map.mp hd
    exact sm_int (h x hx)
  refine this.mono ?_ (Nat.le_refl _)
  rw [List.length_map]
  omega
theorem dpt_of {d : PyData} {k j : Nat} (s : Sm k j d) (h : j ≤ 150 := by omega) : dpt d = true := by
  unfold dpt
  have := s.dp
  exact decide_eq_true (by omega)

/-! ### keys -/
theorem nkeys_ints : ∀ l : List Int, nkeys (l.map .int) = some (l.map .num)
  | [] => rfl
  | x :: l => by simp only [List.map_cons, nkeys, nkey, nkeys_ints l]
theorem nkey_ti {l : List Int} : nkey (.tuple (l.map .int)) = some (.tup (l.map .num)) := by simp only [nkey, nkeys_ints, Option.map_some]
theorem depth_ti {l : List Int} : PyData.depth (.tuple (l.map .int)) ≤ 1 := by
  have := PySem.W.depth_ints l
  simp only [PyData.depth]
  omega
@[simp] theorem isKey_ti {l : List Int} : isKey (.tuple (l.map .int)) = true := by
  have := depth_ti (l := l)
  simp only [isKey, nkey_ti, Option.isSome_some, Bool.true_and]
  exact decide_eq_true (by omega)
theorem num_inj : ∀ {l l' : List Int}, l.map NestedKey.num = l'.map NestedKey.num → l = l'
  | [], [], _ => rfl
  | [], _ :: _, h => by simp at h
  | _ :: _, [], h => by simp at h
  | x :: l, y :: l', h => by
    simp only [List.map_cons, List.cons.injEq, NestedKey.num.injEq] at h
    rw [h.1, num_inj h.2]
@[simp] theorem keyEq_ti {l l' : List Int} : keyEq (.tuple (l.map .int)) (.tuple (l'.map .int)) = decide (l = l') := by
  unfold keyEq
  rw [nkey_ti, nkey_ti, decide_eq_decide]
  constructor
  · intro h
    have h := Option.some.inj h
    injection h with h
    exact num_inj h
  · intro h; rw [h]
end Ev

/-! EvP4: rows of natural numbers, of truth values; loops over a range, over a list. -/
namespace Ev
open PySem
/-- a natural number -/
abbrev ni (k : Nat) : PyData := .int (k : Int)
abbrev bo (k : Bool) : PyData := .bool k
section
variable {h : Hq} {n : Nat}
theorem rangeUp_nat {n : Nat} : rangeUp 0 (n : Int) = (List.range n).map (W.d ∘ ni) := by
  unfold rangeUp
  simp [Function.comp_def]
theorem rg_nat {n : Nat} (h : n ≤ 1000000) : rgOk 0 (n : Int) = true := rg_of (by omega) (by omega) (by omega) (by omega)
theorem for_up {f : W → Vars → Hq → R Fl} (n : Nat) (I : Nat → Vars → Hq → Prop) {env : Vars} {h : Hq} (i : I 0 env h) (st : ∀ j env h, j < n → I j env h → ∃ env' h', f (.d (.int (j : Nat))) env h = .ok (.nx env') h' ∧ I (j + 1) env' h') :
    ∃ env' h', forGo f (rangeUp 0 n) env h = .ok (.nx env') h' ∧ I n env' h' := by
  obtain ⟨env', h', e, i'⟩ := forGo_ok (f := f) I (rangeUp 0 n) 0 env h i fun j w env h e i => by
    obtain ⟨rfl, hj⟩ := rangeUp_at e
    have := st j env h (by omega) (by simpa using i)
    simpa using this
  refine ⟨env', h', e, ?_⟩
  have hl : 0 + (rangeUp 0 (n : Int)).length = n := by rw [rangeUp_len]; omega
  rw [hl] at i'
  exact i'
theorem for_dn {f : W → Vars → Hq → R Fl} (n : Nat) (I : Nat → Vars → Hq → Prop) {env : Vars} {h : Hq} (i : I 0 env h) (st : ∀ j env h, j ≤ n → I j env h → ∃ env' h', f (.d (.int ((n - j : Nat) : Int))) env h = .ok (.nx env') h' ∧ I (j + 1) env' h') :
    ∃ env' h', forGo f (rangeDn n (-1)) env h = .ok (.nx env') h' ∧ I (n + 1) env' h' := by
  obtain ⟨env', h', e, i'⟩ := forGo_ok (f := f) I (rangeDn n (-1)) 0 env h i fun j w env h e i => by
    obtain ⟨rfl, hj⟩ := rangeDn_at e
    have := st j env h (by omega) (by simpa using i)
    rw [show (n : Int) - (j : Int) = ((n - j : Nat) : Int) by omega]
    simpa using this
  refine ⟨env', h', e, ?_⟩
  have hl : 0 + (rangeDn (n : Int) (-1)).length = n + 1 := by rw [rangeDn_len]; omega
  rw [hl] at i'
  exact i'
theorem for_list {α : Type} {f : W → Vars → Hq → R Fl} {emb : α → W} (l : List α) (I : Nat → Vars → Hq → Prop) {env : Vars} {h : Hq} (i : I 0 env h) (st : ∀ j x env h, l[j]? = some x → I j env h → ∃ env' h', f (emb x) env h = .ok (.nx env') h' ∧ I (j + 1) env' h') :
    ∃ env' h', forGo f (l.map emb) env h = .ok (.nx env') h' ∧ I l.length env' h' := by
  obtain ⟨env', h', e, i'⟩ := forGo_ok (f := f) I (l.map emb) 0 env h i fun j w env h e i => by
    rw [List.getElem?_map] at e
    obtain ⟨x, ex, rfl⟩ := Option.map_eq_some_iff.mp e
    have := st j x env h ex (by simpa using i)
    simpa using this
  refine ⟨env', h', e, ?_⟩
  rw [List.length_map, Nat.zero_add] at i'
  exact i'
/-- a loop that may return false: p says where it goes on -/
theorem for_check {α : Type} {f : W → Vars → Hq → R Fl} {emb : α → W} (l : List α) (I : Vars → Prop) (env : Vars) (i : I env) (st : ∀ x env, x ∈ l → I env → ∃ env', f (emb x) env h = .ok (.nx env') h ∧ I env') : ∃ env', forGo f (l.map emb) env h = .ok (.nx env') h ∧ I env' := by
  obtain ⟨env', h', e, eh, i'⟩ := for_list (f := f) l (fun _ env h' => h = h' ∧ I env) ⟨rfl, i⟩ fun j x env h' e q => by
    obtain ⟨eh, q⟩ := q
    subst eh
    obtain ⟨env', e2, i2⟩ := st x env (List.mem_of_getElem? e) q
    exact ⟨env', _, e2, rfl, i2⟩
  subst eh
  exact ⟨env', e, i'⟩
/-- a comprehension over a row -/
theorem lc_go {α : Type} {f : W → Hq → R (Option W)} {emb : α → W} (g : α → Option W) : ∀ (l : List α), (∀ x ∈ l, f (emb x) h = .ok (g x) h) → lcGo f (l.map emb) h = .ok (l.filterMap g) h
  | [], _ => rfl
  | x :: l, e => by
    simp only [List.map_cons, lcGo, e x List.mem_cons_self, b_ok, lc_go g l fun y hy => e y (List.mem_cons_of_mem _ hy), List.filterMap_cons]
    cases g x <;> rfl
/-! ### rows -/
@[simp] theorem any_nat {l : List Nat} {k : Nat} : ((l.map ni).any fun y => PyData.eqv y (.int (k : Int))) = decide (k ∈ l) := by
  rw [Bool.eq_iff_iff]
  simp only [List.any_map, List.any_eq_true, Function.comp, eqv_i, decide_eq_true_eq]
  constructor
  · rintro ⟨x, hx, e⟩
    have : x = k := by exact_mod_cast e
    exact this ▸ hx
  · intro hx
    exact ⟨k, hx, rfl⟩
theorem intsOf_nat : ∀ l : List Nat, intsOf (l.map ni) = some (l.map fun k : Nat => (k : Int))
  | [] => rfl
  | x :: l => by simp only [List.map_cons, intsOf, intsOf_nat l]; rfl
theorem ni_map {l : List Nat} : l.map ni = (l.map fun k : Nat => (k : Int)).map PyData.int := by rw [List.map_map]; rfl
theorem cast_inj : ∀ {l l' : List Nat}, (l.map fun k : Nat => (k : Int)) = l'.map (fun k : Nat => (k : Int)) → l = l'
  | [], [], _ => rfl
  | [], _ :: _, h => by simp at h
  | _ :: _, [], h => by simp at h
  | x :: l, y :: l', h => by
    simp only [List.map_cons, List.cons.injEq] at h
    rw [cast_inj h.2]
    congr 1
    exact_mod_cast h.1
@[simp] theorem eqv_tn {l l' : List Nat} : PyData.eqv (.tuple (l.map ni)) (.tuple (l'.map ni)) = decide (l = l') := by
  rw [ni_map, ni_map, eqv_ti, decide_eq_decide]
  exact ⟨cast_inj, fun e => by rw [e]⟩
@[simp] theorem eqv_ln {l l' : List Nat} : PyData.eqv (.list (l.map ni)) (.list (l'.map ni)) = decide (l = l') := by
  rw [ni_map, ni_map, eqv_li, decide_eq_decide]
  exact ⟨cast_inj, fun e => by rw [e]⟩
@[simp] theorem dpt_tn {l : List Nat} : dpt (.tuple (l.map ni)) = true := by rw [ni_map]; exact dpt_ti
@[simp] theorem dpt_ln {l : List Nat} : dpt (.list (l.map ni)) = true := by rw [ni_map]; exact dpt_li
theorem depthAll_bools : ∀ l : List Bool, PyData.depthAll (l.map bo) = 0
  | [] => rfl
  | x :: l => by simp only [List.map_cons, PyData.depthAll, depthAll_bools l, PyData.depth]; rfl
@[simp] theorem dpt_lb {l : List Bool} : dpt (.list (l.map bo)) = true := by
  unfold dpt
  have := depthAll_bools l
  exact decide_eq_true (by simp only [PyData.depth]; omega)
@[simp] theorem dpt_tb {l : List Bool} : dpt (.tuple (l.map bo)) = true := by
  unfold dpt
  have := depthAll_bools l
  exact decide_eq_true (by simp only [PyData.depth]; omega)
@[simp] theorem eqv_bo {a b : Bool} : PyData.eqv (.bool a) (.bool b) = decide (a = b) := by cases a <;> cases b <;> decide +kernel
theorem eqvAll_bools : ∀ {l l' : List Bool}, PyData.eqvAll (l.map bo) (l'.map bo) = decide (l = l')
  | [], [] => by simp [PyData.eqvAll]
  | [], _ :: _ => by simp [PyData.eqvAll]
  | _ :: _, [] => by simp [PyData.eqvAll]
  | x :: l, y :: l' => by
    simp only [List.map_cons, PyData.eqvAll, eqv_bo, eqvAll_bools]
    by_cases h : x = y <;> simp [h]
@[simp] theorem eqv_lb {l l' : List Bool} : PyData.eqv (.list (l.map bo)) (.list (l'.map bo)) = decide (l = l') := by simp only [PyData.eqv, eqvAll_bools]
@[simp] theorem eqv_tb {l l' : List Bool} : PyData.eqv (.tuple (l.map bo)) (.tuple (l'.map bo)) = decide (l = l') := by simp only [PyData.eqv, eqvAll_bools]
/-- l == [], [] == l -/
@[simp] theorem any_bool {l : List Bool} {k : Bool} : ((l.map bo).any fun y => PyData.eqv y (.bool k)) = decide (k ∈ l) := by
  rw [Bool.eq_iff_iff]
  simp only [List.any_map, List.any_eq_true, Function.comp, eqv_bo, decide_eq_true_eq]
  exact ⟨fun ⟨x, hx, e⟩ => e ▸ hx, fun hx => ⟨k, hx, rfl⟩⟩
theorem sortI_asc {l : List Int} (h : l.Pairwise (· ≤ ·)) : sortI l = l := by
  refine List.Perm.eq_of_pairwise (le := (· ≤ ·)) (fun a b _ _ h1 h2 => Int.le_antisymm h1 h2) ?_ h (List.mergeSort_perm _ _)
  have := List.pairwise_mergeSort (le := fun (a b : Int) => decide (a ≤ b)) (fun a b c h1 h2 => by simp only [decide_eq_true_eq] at *; omega) (fun a b => by simp only [Bool.or_eq_true, decide_eq_true_eq]; omega) l
  exact this.imp fun h => of_decide_eq_true h
theorem sortI_pw (l : List Int) : (sortI l).Pairwise (· ≤ ·) := by
  have := List.pairwise_mergeSort (le := fun (a b : Int) => decide (a ≤ b)) (fun a b c h1 h2 => by simp only [decide_eq_true_eq] at *; omega) (fun a b => by simp only [Bool.or_eq_true, decide_eq_true_eq]; omega) l
  exact this.imp fun h => of_decide_eq_true h
theorem sortI_perm (l : List Int) : (sortI l).Perm l := List.mergeSort_perm _ _
theorem asc_eq' {a b : List Int} (ha : a.Pairwise (· < ·)) (hb : b.Pairwise (· < ·)) (h : ∀ k, k ∈ a ↔ k ∈ b) : a = b := asc_eq ha hb h
theorem bind_2 {i j : Nat} {x y : PyData} {env : Vars} : bindT [i, j] true (.d (.tuple [x, y])) env = some ((env.set i (some (.d x))).set j (some (.d y))) := by simp [bindT, setAll]
theorem boolsOf_map : ∀ l : List Bool, boolsOf (l.map bo) = some l
  | [] => rfl
  | x :: l => by simp only [List.map_cons, boolsOf, boolsOf_map l]; rfl
@[simp] theorem all_d {l : List Bool} : evB .all [.d (.list (l.map bo))] h = .ok (.d (.bool (l.all id))) h := by simp only [evB, toD_d, Option.bind_some, listBools, boolsOf_map, Option.map_some, liftO_s]
@[simp] theorem any_d {l : List Bool} : evB .any [.d (.list (l.map bo))] h = .ok (.d (.bool (l.any id))) h := by simp only [evB, toD_d, Option.bind_some, listBools, boolsOf_map, Option.map_some, liftO_s]
end
end Ev
namespace Ev
open PySem
section
variable {b : Nat} {C : CallF} {s : S} {ss : Ss} {env env' : Vars} {h h' : Hq} {w : W}
theorem seq_nx (e : evS b C s env h = .ok (.nx env') h') : evSs b C (.cons s ss) env h = evSs b C ss env' h' := by simp only [s_cons, e, b_ok]
theorem seq_rt (e : evS b C s env h = .ok (.rt w) h') : evSs b C (.cons s ss) env h = .ok (.rt w) h' := by simp only [s_cons, e, b_ok]
end
end Ev
namespace Ev
open PySem
section
variable {h : Hq}
@[simp] theorem lcEnd_1 {α : Type} {g : α → PyData} {l : List α} : lcEnd 1 (l.map fun x => W.d (g x)) h = .ok (.l h.length) (h ++ [.lst (l.map g)]) := by simp only [lcEnd, allD_mapf]
@[simp] theorem lcEnd_1c {α : Type} {g : α → PyData} {l : List α} : lcEnd 1 (l.map (W.d ∘ g)) h = .ok (.l h.length) (h ++ [.lst (l.map g)]) := by simp only [lcEnd, allD_comp]
@[simp] theorem lcEnd_2 {ws : List W} : lcEnd 2 ws h = .ok (.l h.length) (h ++ [.lsw ws]) := nr rfl
end
end Ev
namespace Ev
open PySem
section
variable {h t : Hq} {a b c a' b' : Ob}
@[simp] theorem at2_0 : (h ++ [a, b])[h.length]? = some a := by simp
@[simp] theorem at2_1 : (h ++ [a, b])[h.length + 1]? = some b := by simp
@[simp] theorem set2_0 : (h ++ [a, b]).set h.length a' = h ++ [a', b] := by simp
@[simp] theorem set2_1 : (h ++ [a, b]).set (h.length + 1) b' = h ++ [a, b'] := by simp
@[simp] theorem take2 : (h ++ [a, b]).take h.length = h := by simp
@[simp] theorem at3_0 : (h ++ [a, b, c])[h.length]? = some a := by simp
@[simp] theorem at3_1 : (h ++ [a, b, c])[h.length + 1]? = some b := by simp
@[simp] theorem at3_2 : (h ++ [a, b, c])[h.length + 2]? = some c := by simp
@[simp] theorem set3_0 : (h ++ [a, b, c]).set h.length a' = h ++ [a', b, c] := by simp
@[simp] theorem set3_1 : (h ++ [a, b, c]).set (h.length + 1) b' = h ++ [a, b', c] := by simp
@[simp] theorem set3_2 : (h ++ [a, b, c]).set (h.length + 2) b' = h ++ [a, b, b'] := by simp
@[simp] theorem take3 : (h ++ [a, b, c]).take h.length = h := by simp
theorem ixN_nat {n k : Nat} (hk : k < n) : L2.ixN n (k : Int) = some k := by
  unfold L2.ixN
  rw [if_pos (by omega), if_pos (by omega)]
  simp
theorem toDD_w {n : Nat} {ws : List W} (e : h[n]? = some (.lsw ws)) (r : ∀ w ∈ ws, ∃ x, toDn 2 h w = some x) : ∃ ds, toDD h (.l n) = some (.list ds) ∧ ds.length = ws.length := by
  have : ∃ ds, allO (ws.map (toDn 2 h)) = some ds ∧ ds.length = ws.length := by
    clear e
    induction ws with
    | nil => exact ⟨[], rfl, rfl⟩
    | cons w ws ih =>
      obtain ⟨ds, e1, e2⟩ := ih fun w hw => r w (List.mem_cons_of_mem _ hw)
      obtain ⟨x, ex⟩ := r w List.mem_cons_self
      exact ⟨x :: ds, by simp only [List.map_cons, ex, allO, e1, Option.map_some], by simp [e2]⟩
  obtain ⟨ds, e1, e2⟩ := this
  exact ⟨ds, by simp only [toDD, toDn, e, e1, Option.map_some], e2⟩
theorem toDn_l {n k : Nat} {xs : List PyData} (e : h[n]? = some (.lst xs)) : toDn (k + 1) h (.l n) = some (.list xs) := by simp only [toDn, e]
/-- l == [] for a list of lists -/
theorem eq_nil_w {n : Nat} {ws : List W} (e : h[n]? = some (.lsw ws)) (r : ∀ w ∈ ws, ∃ x, toDn 2 h w = some x) : cmpW .Eq (.l n) (.d (.list [])) h = .ok (.d (.bool ws.isEmpty)) h := by
  obtain ⟨ds, e1, e2⟩ := toDD_w e r
  simp only [cmpW, dctOf_d, e1, toDD_d]
  rw [eq_d (by simp), eqv_l0]
  simp only [liftO_s]
  cases ds <;> cases ws <;> simp at e2 <;> rfl
end
end Ev
namespace Ev
open PySem
section
variable {k : Nat} {l : List Nat}
@[simp high] theorem in_tn : evCmp .In (.int (k : Int)) (.tuple (l.map ni)) = some (.bool (decide (k ∈ l))) := by rw [in_t dpt_i, any_nat]
@[simp high] theorem nin_tn : evCmp .NotIn (.int (k : Int)) (.tuple (l.map ni)) = some (.bool (!decide (k ∈ l))) := by rw [nin_t dpt_i, any_nat]
@[simp high] theorem in_ln : evCmp .In (.int (k : Int)) (.list (l.map ni)) = some (.bool (decide (k ∈ l))) := by rw [in_l dpt_i, any_nat]
@[simp high] theorem nin_ln : evCmp .NotIn (.int (k : Int)) (.list (l.map ni)) = some (.bool (!decide (k ∈ l))) := by rw [nin_l dpt_i, any_nat]
end
end Ev

namespace Ev
open PySem PySem.Spec L2
abbrev ancestors_b3_s0 : S := (.app (.var 2) (.var 4))
def ancestors_b3 : Ss := (.cons ancestors_b3_s0 .nil)
abbrev ancestors_b2_s0 : S := (.ifs (.cmp .NotIn (.var 4) (.var 2)) ancestors_b3 .nil)
def ancestors_b2 : Ss := (.cons ancestors_b2_s0 .nil)
abbrev ancestors_b1_s0 : S := (.forS [4] false (.e (.idx (.idx (.idx (.var 0) (.lit (.int 1))) (.var 3)) (.lit (.int 1)))) ancestors_b2)
def ancestors_b1 : Ss := (.cons ancestors_b1_s0 .nil)
abbrev ancestors_b0_s0 : S := (.ifs (.cmp .In (.var 3) (.var 2)) ancestors_b1 .nil)
def ancestors_b0 : Ss := (.cons ancestors_b0_s0 .nil)
abbrev ancestors_s0 : S := (.asg [2] false (.lstM (.cons (.var 1) .nil)))
abbrev ancestors_s1 : S := (.forS [3] false (.rgd (.var 1) (.neg (.lit (.int 1)))) ancestors_b0)
abbrev ancestors_s2 : S := (.ret (.blt .tuple (.cons (.blt .sorted (.cons (.var 2) .nil)) .nil)))
def f_ancestors : FD := ⟨2, 5, true, (.cons ancestors_s0 (.cons ancestors_s1 (.cons ancestors_s2 .nil)))⟩
def n_ancestors : List Str := ["history", "m", "found", "k", "parent"]
abbrev parts_by_s0 : S := (.asg [3] false (.call 0 (.cons (.var 0) (.cons (.var 2) .nil))))
abbrev parts_by_s1 : S := (.ret (.tup (.cons (.blt .tuple (.cons (.lc 0 [4] false (.e (.var 1)) (.some (.cmp .In (.var 4) (.var 3))) (.var 4)) .nil)) (.cons (.blt .tuple (.cons (.lc 0 [4] false (.e (.var 1)) (.some (.cmp .NotIn (.var 4) (.var 3))) (.var 4)) .nil)) .nil))))
def f_parts_by : FD := ⟨3, 5, false, (.cons parts_by_s0 (.cons parts_by_s1 .nil))⟩
def n_parts_by : List Str := ["history", "left", "m", "row", "c"]
abbrev even_test_b1_s0 : S := (.asg [4, 5] true (.call 1 (.cons (.var 0) (.cons (.var 1) (.cons (.var 3) .nil)))))
abbrev even_test_b1_s1 : S := (.app (.var 2) (.blt .min (.cons (.blt .len (.cons (.var 4) .nil)) (.cons (.blt .len (.cons (.var 5) .nil)) .nil))))
def even_test_b1 : Ss := (.cons even_test_b1_s0 (.cons even_test_b1_s1 .nil))
abbrev even_test_b0_s0 : S := (.rais 1 .nil)
def even_test_b0 : Ss := (.cons even_test_b0_s0 .nil)
abbrev even_test_s0 : S := (.ifs (.cmp .Lt (.blt .len (.cons (.var 1) .nil)) (.lit (.int 2))) even_test_b0 .nil)
abbrev even_test_s1 : S := (.asg [2] false (.lstM .nil))
abbrev even_test_s2 : S := (.forS [3] false (.rg1 (.blt .len (.cons (.idx (.var 0) (.lit (.int 1))) .nil))) even_test_b1)
abbrev even_test_s3 : S := (.ret (.mth .index (.var 2) (.cons (.blt .max (.cons (.var 2) .nil)) .nil)))
def f_even_test : FD := ⟨2, 6, true, (.cons even_test_s0 (.cons even_test_s1 (.cons even_test_s2 (.cons even_test_s3 .nil))))⟩
def n_even_test : List Str := ["history", "left", "sizes", "m", "one", "other"]
abbrev even_most_b0_s0 : S := (.ret (.lit (.int 0)))
def even_most_b0 : Ss := (.cons even_most_b0_s0 .nil)
abbrev even_most_s0 : S := (.ifs (.cmp .LtE (.blt .len (.cons (.var 1) .nil)) (.lit (.int 1))) even_most_b0 .nil)
abbrev even_most_s1 : S := (.asg [2, 3] true (.call 1 (.cons (.var 0) (.cons (.var 1) (.cons (.call 2 (.cons (.var 0) (.cons (.var 1) .nil))) .nil)))))
abbrev even_most_s2 : S := (.ret (.bin .Add (.lit (.int 1)) (.blt .max (.cons (.call 3 (.cons (.var 0) (.cons (.var 2) .nil))) (.cons (.call 3 (.cons (.var 0) (.cons (.var 3) .nil))) .nil)))))
def f_even_most : FD := ⟨2, 4, false, (.cons even_most_s0 (.cons even_most_s1 (.cons even_most_s2 .nil)))⟩
def n_even_most : List Str := ["history", "left", "one", "other"]
abbrev tree_for_b0_s0 : S := (.ret (.tup (.cons (.lit (.str "found")) (.cons (.idx (.var 1) (.lit (.int 0))) .nil))))
def tree_for_b0 : Ss := (.cons tree_for_b0_s0 .nil)
abbrev tree_for_s0 : S := (.ifs (.cmp .Eq (.blt .len (.cons (.var 1) .nil)) (.lit (.int 1))) tree_for_b0 .nil)
abbrev tree_for_s1 : S := (.asg [2] false (.call 2 (.cons (.var 0) (.cons (.var 1) .nil))))
abbrev tree_for_s2 : S := (.asg [3, 4] true (.call 1 (.cons (.var 0) (.cons (.var 1) (.cons (.var 2) .nil)))))
abbrev tree_for_s3 : S := (.ret (.tup (.cons (.lit (.str "ask")) (.cons (.var 2) (.cons (.call 4 (.cons (.var 0) (.cons (.var 3) .nil))) (.cons (.call 4 (.cons (.var 0) (.cons (.var 4) .nil))) .nil))))))
def f_tree_for : FD := ⟨2, 5, false, (.cons tree_for_s0 (.cons tree_for_s1 (.cons tree_for_s2 (.cons tree_for_s3 .nil))))⟩
def n_tree_for : List Str := ["history", "left", "m", "one", "other"]
abbrev even_tree_s0 : S := (.ret (.call 4 (.cons (.var 0) (.cons (.trg true (.blt .len (.cons (.idx (.var 0) (.lit (.int 1))) .nil))) .nil))))
def f_even_tree : FD := ⟨1, 1, false, (.cons even_tree_s0 .nil)⟩
def n_even_tree : List Str := ["history"]
abbrev has_two_s0 : S := (.ret (.blt .all (.cons (.lc 0 [1] false (.e (.idx (.var 0) (.lit (.int 1)))) .none (.cmp .LtE (.blt .len (.cons (.idx (.var 1) (.lit (.int 1))) .nil)) (.lit (.int 2)))) .nil)))
def f_has_two : FD := ⟨1, 2, false, (.cons has_two_s0 .nil)⟩
def n_has_two : List Str := ["history", "make"]
abbrev two_bound_b0_s0 : S := (.asg [3] false (.bin .Sub (.var 2) (.bin .FloorDiv (.bin .Add (.bin .Mult (.lit (.int 2)) (.var 2)) (.lit (.int 3))) (.lit (.int 6)))))
abbrev two_bound_b0_s1 : S := (.app (.var 1) (.bin .Add (.lit (.int 1)) (.blt .max (.cons (.slc (.var 1) (.some (.lit (.int 1))) (.some (.bin .Add (.var 3) (.lit (.int 1))))) .nil))))
def two_bound_b0 : Ss := (.cons two_bound_b0_s0 (.cons two_bound_b0_s1 .nil))
abbrev two_bound_s0 : S := (.asg [1] false (.lstM (.cons (.lit (.int 0)) (.cons (.lit (.int 0)) .nil))))
abbrev two_bound_s1 : S := (.forS [2] false (.rg2 (.lit (.int 2)) (.bin .Add (.var 0) (.lit (.int 1)))) two_bound_b0)
abbrev two_bound_s2 : S := (.ret (.idx (.var 1) (.var 0)))
def f_two_bound : FD := ⟨1, 4, true, (.cons two_bound_s0 (.cons two_bound_s1 (.cons two_bound_s2 .nil)))⟩
def n_two_bound : List Str := ["n", "bounds", "many", "rest"]
abbrev law_cell_b0_s0 : S := (.ret (.idx (.var 0) (.var 1)))
def law_cell_b0 : Ss := (.cons law_cell_b0_s0 .nil)
abbrev law_cell_s0 : S := (.ifs (.cmp .Lt (.var 1) (.blt .len (.cons (.var 0) .nil))) law_cell_b0 .nil)
abbrev law_cell_s1 : S := (.ret (.lit (.int 0)))
def f_law_cell : FD := ⟨2, 2, false, (.cons law_cell_s0 (.cons law_cell_s1 .nil))⟩
def n_law_cell : List Str := ["_law_script", "_law_k"]
abbrev law_digits_b6_s0 : S := (.asg [7] false (.bin .Mod (.blt .int (.cons (.bin .Add (.bin .Add (.bin .Mult (.var 7) (.lit (.int 16807))) (.bin .Mult (.lit (.int 7)) (.var 6))) (.lit (.int 1))) .nil)) (.lit (.int 2147483647))))
abbrev law_digits_b6_s1 : S := (.app (.var 3) (.bin .Mod (.blt .int (.cons (.bin .FloorDiv (.var 7) (.lit (.int 997))) .nil)) (.lit (.int 1000))))
def law_digits_b6 : Ss := (.cons law_digits_b6_s0 (.cons law_digits_b6_s1 .nil))
abbrev law_digits_b5_s0 : S := (.asg [7] false (.bin .Mod (.blt .int (.cons (.bin .Add (.bin .Add (.bin .Mult (.var 5) (.lit (.int 48271))) (.bin .Mult (.var 4) (.lit (.int 69621)))) (.lit (.int 11))) .nil)) (.lit (.int 2147483647))))
abbrev law_digits_b5_s1 : S := (.forS [6] false (.rg1 (.lit (.int 12))) law_digits_b6)
def law_digits_b5 : Ss := (.cons law_digits_b5_s0 (.cons law_digits_b5_s1 .nil))
abbrev law_digits_b4_s0 : S := (.app (.var 3) (.bin .Mod (.blt .int (.cons (.var 5) .nil)) (.lit (.int 1000))))
abbrev law_digits_b4_s1 : S := (.asg [5] false (.bin .FloorDiv (.var 5) (.lit (.int 1000))))
def law_digits_b4 : Ss := (.cons law_digits_b4_s0 (.cons law_digits_b4_s1 .nil))
abbrev law_digits_b3_s0 : S := (.ifs (.cmp .Gt (.var 5) (.lit (.int 0))) law_digits_b4 .nil)
def law_digits_b3 : Ss := (.cons law_digits_b3_s0 .nil)
abbrev law_digits_b2_s0 : S := (.forS [6] false (.rg1 (.lit (.int 60))) law_digits_b3)
def law_digits_b2 : Ss := (.cons law_digits_b2_s0 .nil)
abbrev law_digits_b1_s0 : S := (.asg [5] false (.bin .Sub (.lit (.int 1)) (.bin .Mult (.lit (.int 2)) (.var 5))))
def law_digits_b1 : Ss := (.cons law_digits_b1_s0 .nil)
abbrev law_digits_b0_s0 : S := (.asg [5] false (.call 8 (.cons (.var 0) (.cons (.var 4) .nil))))
abbrev law_digits_b0_s1 : S := (.ifs (.cmp .Lt (.var 5) (.lit (.int 0))) law_digits_b1 .nil)
abbrev law_digits_b0_s2 : S := (.ifs (.cmp .GtE (.var 5) (.bin .Pow (.lit (.int 10)) (.lit (.int 18)))) law_digits_b2 law_digits_b5)
def law_digits_b0 : Ss := (.cons law_digits_b0_s0 (.cons law_digits_b0_s1 (.cons law_digits_b0_s2 .nil)))
abbrev law_digits_s0 : S := (.asg [3] false (.lstM .nil))
abbrev law_digits_s1 : S := (.forS [4] false (.rg2 (.var 1) (.var 2)) law_digits_b0)
abbrev law_digits_s2 : S := (.frz 3)
abbrev law_digits_s3 : S := (.ret (.var 3))
def f_law_digits : FD := ⟨3, 8, true, (.cons law_digits_s0 (.cons law_digits_s1 (.cons law_digits_s2 (.cons law_digits_s3 .nil))))⟩
def n_law_digits : List Str := ["_law_script", "_law_first", "_law_last", "_law_digits_here", "_law_k", "_law_cell_here", "_law_turn", "_law_seed"]
abbrev law_draw_b0_s0 : S := (.ret (.bin .Mod (.blt .int (.cons (.idx (.idx (.var 0) (.lit (.int 0))) (.var 2)) .nil)) (.var 1)))
def law_draw_b0 : Ss := (.cons law_draw_b0_s0 .nil)
abbrev law_draw_s0 : S := (.asg [2] false (.idx (.var 0) (.lit (.int 1))))
abbrev law_draw_s1 : S := (.set (.var 0) (.lit (.int 1)) (.bin .Add (.var 2) (.lit (.int 1))))
abbrev law_draw_s2 : S := (.ifs (.cmp .Lt (.var 2) (.blt .len (.cons (.idx (.var 0) (.lit (.int 0))) .nil))) law_draw_b0 .nil)
abbrev law_draw_s3 : S := (.ret (.lit (.int 0)))
def f_law_draw : FD := ⟨2, 3, false, (.cons law_draw_s0 (.cons law_draw_s1 (.cons law_draw_s2 (.cons law_draw_s3 .nil))))⟩
def n_law_draw : List Str := ["_law_box", "_law_many", "_law_at"]
abbrev law_pick_s0 : S := (.ret (.idx (.var 1) (.bin .Mod (.blt .int (.cons (.call 10 (.cons (.var 0) (.cons (.lit (.int 900)) .nil))) .nil)) (.blt .len (.cons (.var 1) .nil)))))
def f_law_pick : FD := ⟨2, 2, false, (.cons law_pick_s0 .nil)⟩
def n_law_pick : List Str := ["_law_box", "_law_things"]
abbrev law_same_s0 : S := (.ret (.cmp .Eq (.blt .repr (.cons (.var 0) .nil)) (.blt .repr (.cons (.var 1) .nil))))
def f_law_same : FD := ⟨2, 2, false, (.cons law_same_s0 .nil)⟩
def n_law_same : List Str := ["_law_actual", "_law_due"]
abbrev law_word_b1_s0 : S := (.ret (.lit (.str "make")))
def law_word_b1 : Ss := (.cons law_word_b1_s0 .nil)
abbrev law_word_b0_s0 : S := (.ret (.lit (.str "from")))
def law_word_b0 : Ss := (.cons law_word_b0_s0 .nil)
abbrev law_word_s0 : S := (.ifs (.and (.cmp .Eq (.var 1) (.lit (.int 1))) (.one (.cmp .Eq (.var 2) (.lit (.int 3))))) law_word_b0 .nil)
abbrev law_word_s1 : S := (.ifs (.and (.cmp .Eq (.var 1) (.lit (.int 0))) (.one (.cmp .Eq (.var 2) (.lit (.int 5))))) law_word_b1 .nil)
abbrev law_word_s2 : S := (.ret (.bin .Add (.idx (.lit (.str "abcdefghijklmnopqrstuvwxyz")) (.bin .Mod (.blt .int (.cons (.bin .Add (.var 2) (.var 1)) .nil)) (.lit (.int 26)))) (.idx (.lst (.cons (.lit (.str "")) (.cons (.lit (.str "x")) (.cons (.lit (.str "zzzzzzz")) .nil)))) (.bin .Mod (.blt .int (.cons (.var 2) .nil)) (.lit (.int 3))))))
def f_law_word : FD := ⟨3, 3, false, (.cons law_word_s0 (.cons law_word_s1 (.cons law_word_s2 .nil)))⟩
def n_law_word : List Str := ["_law_box", "_law_k", "_law_at"]
abbrev law_history_b3_s0 : S := (.app (.idx (.var 3) (.var 5)) (.var 7))
def law_history_b3 : Ss := (.cons law_history_b3_s0 .nil)
abbrev law_history_b2_s0 : S := (.asg [5] false (.bin .Add (.lit (.int 1)) (.call 10 (.cons (.var 0) (.cons (.bin .Sub (.var 2) (.lit (.int 1))) .nil)))))
abbrev law_history_b2_s1 : S := (.asg [7] false (.call 10 (.cons (.var 0) (.cons (.var 5) .nil))))
abbrev law_history_b2_s2 : S := (.ifs (.and (.cmp .NotIn (.var 7) (.idx (.var 3) (.var 5))) (.one (.cmp .Lt (.blt .len (.cons (.idx (.var 3) (.var 5)) .nil)) (.lit (.int 4))))) law_history_b3 .nil)
def law_history_b2 : Ss := (.cons law_history_b2_s0 (.cons law_history_b2_s1 (.cons law_history_b2_s2 .nil)))
abbrev law_history_b1_s0 : S := (.asg [5] false (.bin .Add (.var 4) (.lit (.int 1))))
def law_history_b1 : Ss := (.cons law_history_b1_s0 .nil)
abbrev law_history_b0_s0 : S := (.asg [5] false (.bin .Add (.bin .Add (.var 4) (.lit (.int 1))) (.bin .Mult (.call 10 (.cons (.var 0) (.cons (.bin .Sub (.bin .Sub (.var 2) (.lit (.int 1))) (.var 4)) .nil))) (.blt .int (.cons (.cmp .Eq (.call 10 (.cons (.var 0) (.cons (.lit (.int 2)) .nil))) (.lit (.int 0))) .nil)))))
abbrev law_history_b0_s1 : S := (.ifs (.cmp .GtE (.blt .len (.cons (.idx (.var 3) (.var 5)) .nil)) (.lit (.int 2))) law_history_b1 .nil)
abbrev law_history_b0_s2 : S := (.app (.idx (.var 3) (.var 5)) (.var 4))
def law_history_b0 : Ss := (.cons law_history_b0_s0 (.cons law_history_b0_s1 (.cons law_history_b0_s2 .nil)))
abbrev law_history_s0 : S := (.asg [2] false (.bin .Add (.lit (.int 1)) (.call 10 (.cons (.var 0) (.cons (.var 1) .nil)))))
abbrev law_history_s1 : S := (.asg [3] false (.lc 2 [4] false (.rg1 (.var 2)) .none (.lstM .nil)))
abbrev law_history_s2 : S := (.forS [4] false (.rg1 (.bin .Sub (.var 2) (.lit (.int 1)))) law_history_b0)
abbrev law_history_s3 : S := (.forS [6] false (.rg1 (.bin .Mult (.call 10 (.cons (.var 0) (.cons (.lit (.int 5)) .nil))) (.blt .int (.cons (.cmp .Gt (.var 2) (.lit (.int 1))) .nil)))) law_history_b2)
abbrev law_history_s4 : S := (.asg [8] false (.call 10 (.cons (.var 0) (.cons (.lit (.int 12)) .nil))))
abbrev law_history_s5 : S := (.ret (.tup (.cons (.lit (.str "history")) (.cons (.blt .tuple (.cons (.lc 0 [4] false (.rg1 (.var 2)) .none (.tup (.cons (.call 13 (.cons (.var 0) (.cons (.var 4) (.cons (.var 8) .nil)))) (.cons (.blt .tuple (.cons (.blt .sorted (.cons (.idx (.var 3) (.var 4)) .nil)) .nil)) .nil)))) .nil)) .nil))))
def f_law_history : FD := ⟨2, 9, true, (.cons law_history_s0 (.cons law_history_s1 (.cons law_history_s2 (.cons law_history_s3 (.cons law_history_s4 (.cons law_history_s5 .nil))))))⟩
def n_law_history : List Str := ["_law_box", "_law_most", "_law_many", "_law_parents", "_law_k", "_law_child", "_law_turn", "_law_parent", "_law_at"]
abbrev law_above_b1_s0 : S := (.set (.var 2) (.var 4) (.or (.idx (.var 2) (.var 4)) (.one (.idx (.var 2) (.var 3)))))
def law_above_b1 : Ss := (.cons law_above_b1_s0 .nil)
abbrev law_above_b0_s0 : S := (.forS [4] false (.e (.idx (.idx (.idx (.var 0) (.lit (.int 1))) (.var 3)) (.lit (.int 1)))) law_above_b1)
def law_above_b0 : Ss := (.cons law_above_b0_s0 .nil)
abbrev law_above_s0 : S := (.asg [2] false (.lc 1 [3] false (.rg1 (.blt .len (.cons (.idx (.var 0) (.lit (.int 1))) .nil))) .none (.cmp .Eq (.var 3) (.var 1))))
abbrev law_above_s1 : S := (.forS [3] false (.rgd (.var 1) (.neg (.lit (.int 1)))) law_above_b0)
abbrev law_above_s2 : S := (.frz 2)
abbrev law_above_s3 : S := (.ret (.var 2))
def f_law_above : FD := ⟨2, 5, true, (.cons law_above_s0 (.cons law_above_s1 (.cons law_above_s2 (.cons law_above_s3 .nil))))⟩
def n_law_above : List Str := ["_law_history_here", "_law_m", "_law_marks", "_law_k", "_law_parent"]
abbrev law_two_b2_s0 : S := (.set (.var 2) (.bin .Add (.var 4) (.lit (.int 1))) (.blt .sorted (.cons (.bin .Add (.lst (.cons (.var 4) .nil)) (.slc (.idx (.var 2) (.bin .Add (.var 4) (.lit (.int 1)))) (.some (.lit (.int 1))) .none)) .nil)))
def law_two_b2 : Ss := (.cons law_two_b2_s0 .nil)
abbrev law_two_b1_s0 : S := (.ifs (.cmp .Eq (.lc 0 [5] false (.rg2 (.bin .Add (.var 4) (.lit (.int 1))) (.blt .len (.cons (.var 2) .nil))) (.some (.cmp .In (.var 4) (.idx (.var 2) (.var 5)))) (.var 5)) (.lst .nil)) law_two_b2 .nil)
def law_two_b1 : Ss := (.cons law_two_b1_s0 .nil)
abbrev law_two_b0_s0 : S := (.set (.var 2) (.var 4) (.slc (.blt .sorted (.cons (.idx (.var 2) (.var 4)) .nil)) .none (.some (.lit (.int 2)))))
def law_two_b0 : Ss := (.cons law_two_b0_s0 .nil)
abbrev law_two_s0 : S := (.asg [1] false (.idx (.var 0) (.lit (.int 1))))
abbrev law_two_s1 : S := (.asg [2] false (.lc 1 [3] false (.e (.var 1)) .none (.blt .list (.cons (.idx (.var 3) (.lit (.int 1))) .nil))))
abbrev law_two_s2 : S := (.forS [4] false (.rg1 (.blt .len (.cons (.var 2) .nil))) law_two_b0)
abbrev law_two_s3 : S := (.forS [4] false (.rg1 (.bin .Sub (.blt .len (.cons (.var 2) .nil)) (.lit (.int 1)))) law_two_b1)
abbrev law_two_s4 : S := (.ret (.tup (.cons (.lit (.str "history")) (.cons (.blt .tuple (.cons (.lc 0 [4] false (.rg1 (.blt .len (.cons (.var 1) .nil))) .none (.tup (.cons (.idx (.idx (.var 1) (.var 4)) (.lit (.int 0))) (.cons (.blt .tuple (.cons (.idx (.var 2) (.var 4)) .nil)) .nil)))) .nil)) .nil))))
def f_law_two : FD := ⟨1, 6, true, (.cons law_two_s0 (.cons law_two_s1 (.cons law_two_s2 (.cons law_two_s3 (.cons law_two_s4 .nil)))))⟩
def n_law_two : List Str := ["_law_history_here", "_law_makes", "_law_rows", "_law_make", "_law_k", "_law_j"]
abbrev law_parts_s0 : S := (.asg [3] false (.call 15 (.cons (.var 0) (.cons (.var 2) .nil))))
abbrev law_parts_s1 : S := (.ret (.lst (.cons (.blt .tuple (.cons (.lc 0 [4] false (.e (.var 1)) (.some (.idx (.var 3) (.var 4))) (.var 4)) .nil)) (.cons (.blt .tuple (.cons (.lc 0 [4] false (.e (.var 1)) (.some (.nt (.idx (.var 3) (.var 4)))) (.var 4)) .nil)) .nil))))
def f_law_parts : FD := ⟨3, 5, false, (.cons law_parts_s0 (.cons law_parts_s1 .nil))⟩
def n_law_parts : List Str := ["_law_history_here", "_law_left", "_law_m", "_law_marks", "_law_c"]
abbrev law_even_b1_s0 : S := (.asg [2] false (.lst (.cons (.var 4) (.cons (.var 3) .nil))))
def law_even_b1 : Ss := (.cons law_even_b1_s0 .nil)
abbrev law_even_b0_s0 : S := (.asg [4] false (.blt .min (.cons (.lc 0 [5] false (.e (.call 17 (.cons (.var 0) (.cons (.var 1) (.cons (.var 3) .nil))))) .none (.blt .len (.cons (.var 5) .nil))) .nil)))
abbrev law_even_b0_s1 : S := (.ifs (.cmp .Gt (.var 4) (.idx (.var 2) (.lit (.int 0)))) law_even_b1 .nil)
def law_even_b0 : Ss := (.cons law_even_b0_s0 (.cons law_even_b0_s1 .nil))
abbrev law_even_s0 : S := (.asg [2] false (.lst (.cons (.neg (.lit (.int 1))) (.cons (.lit (.int 0)) .nil))))
abbrev law_even_s1 : S := (.forS [3] false (.rg1 (.blt .len (.cons (.idx (.var 0) (.lit (.int 1))) .nil))) law_even_b0)
abbrev law_even_s2 : S := (.ret (.var 2))
def f_law_even : FD := ⟨2, 6, false, (.cons law_even_s0 (.cons law_even_s1 (.cons law_even_s2 .nil)))⟩
def n_law_even : List Str := ["_law_history_here", "_law_left", "_law_best", "_law_m", "_law_size", "_law_part"]
abbrev law_tree_b0_s0 : S := (.ret (.tup (.cons (.lit (.str "found")) (.cons (.idx (.var 1) (.lit (.int 0))) .nil))))
def law_tree_b0 : Ss := (.cons law_tree_b0_s0 .nil)
abbrev law_tree_s0 : S := (.ifs (.cmp .Eq (.blt .len (.cons (.var 1) .nil)) (.lit (.int 1))) law_tree_b0 .nil)
abbrev law_tree_s1 : S := (.asg [2] false (.idx (.call 18 (.cons (.var 0) (.cons (.var 1) .nil))) (.lit (.int 1))))
abbrev law_tree_s2 : S := (.asg [3] false (.call 17 (.cons (.var 0) (.cons (.var 1) (.cons (.var 2) .nil)))))
abbrev law_tree_s3 : S := (.ret (.tup (.cons (.lit (.str "ask")) (.cons (.var 2) (.cons (.call 19 (.cons (.var 0) (.cons (.idx (.var 3) (.lit (.int 0))) .nil))) (.cons (.call 19 (.cons (.var 0) (.cons (.idx (.var 3) (.lit (.int 1))) .nil))) .nil))))))
def f_law_tree : FD := ⟨2, 4, false, (.cons law_tree_s0 (.cons law_tree_s1 (.cons law_tree_s2 (.cons law_tree_s3 .nil))))⟩
def n_law_tree : List Str := ["_law_history_here", "_law_left", "_law_m", "_law_parts_here"]
abbrev law_depth_b0_s0 : S := (.ret (.lit (.int 0)))
def law_depth_b0 : Ss := (.cons law_depth_b0_s0 .nil)
abbrev law_depth_s0 : S := (.ifs (.cmp .Eq (.idx (.var 0) (.lit (.int 0))) (.lit (.str "found"))) law_depth_b0 .nil)
abbrev law_depth_s1 : S := (.ret (.bin .Add (.lit (.int 1)) (.blt .max (.cons (.call 20 (.cons (.idx (.var 0) (.lit (.int 2))) .nil)) (.cons (.call 20 (.cons (.idx (.var 0) (.lit (.int 3))) .nil)) .nil)))))
def f_law_depth : FD := ⟨1, 1, false, (.cons law_depth_s0 (.cons law_depth_s1 .nil))⟩
def n_law_depth : List Str := ["_law_tree_here"]
abbrev law_bound_b0_s0 : S := (.app (.var 1) (.bin .Add (.lit (.int 1)) (.blt .max (.cons (.slc (.var 1) .none (.some (.bin .Sub (.var 2) (.bin .FloorDiv (.bin .Add (.bin .Mult (.lit (.int 2)) (.var 2)) (.lit (.int 3))) (.lit (.int 6)))))) .nil))))
def law_bound_b0 : Ss := (.cons law_bound_b0_s0 .nil)
abbrev law_bound_s0 : S := (.asg [1] false (.lstM (.cons (.lit (.int 0)) .nil)))
abbrev law_bound_s1 : S := (.forS [2] false (.rg2 (.lit (.int 2)) (.bin .Add (.var 0) (.lit (.int 1)))) law_bound_b0)
abbrev law_bound_s2 : S := (.ret (.idx (.var 1) (.bin .Sub (.var 0) (.lit (.int 1)))))
def f_law_bound : FD := ⟨1, 3, true, (.cons law_bound_s0 (.cons law_bound_s1 (.cons law_bound_s2 .nil)))⟩
def n_law_bound : List Str := ["_law_n", "_law_bounds", "_law_many"]
abbrev law_is_whole_s0 : S := (.ret (.cmp .Eq (.blt .len (.cons (.lc 0 [1] false (.e (.call 15 (.cons (.var 0) (.cons (.bin .Sub (.blt .len (.cons (.idx (.var 0) (.lit (.int 1))) .nil)) (.lit (.int 1))) .nil)))) (.some (.nt (.var 1))) (.var 1)) .nil)) (.lit (.int 0))))
def f_law_is_whole : FD := ⟨1, 2, false, (.cons law_is_whole_s0 .nil)⟩
def n_law_is_whole : List Str := ["_law_history_here", "_law_mark"]
abbrev law_b12_s0 : S := (.ret (.lit (.bool false)))
def law_b12 : Ss := (.cons law_b12_s0 .nil)
abbrev law_b11_s0 : S := (.ret (.lit (.bool false)))
def law_b11 : Ss := (.cons law_b11_s0 .nil)
abbrev law_b10_s0 : S := (.ifs (.exis 13 [2]) law_b11 .nil)
def law_b10 : Ss := (.cons law_b10_s0 .nil)
abbrev law_b9_s0 : S := (.expr (.call 2 (.cons (.var 2) (.cons (.var 12) .nil))))
abbrev law_b9_s1 : S := (.ret (.lit (.bool false)))
def law_b9 : Ss := (.cons law_b9_s0 (.cons law_b9_s1 .nil))
abbrev law_b8_s0 : S := (.tryS [1] (some 13) [0, 1, 2, 3, 4, 5, 6, 7, 8, 9, 10, 11, 12, 14] law_b9 law_b10)
def law_b8 : Ss := (.cons law_b8_s0 .nil)
abbrev law_b7_s0 : S := (.ret (.lit (.bool false)))
def law_b7 : Ss := (.cons law_b7_s0 .nil)
abbrev law_b6_s0 : S := (.ret (.lit (.bool false)))
def law_b6 : Ss := (.cons law_b6_s0 .nil)
abbrev law_b5_s0 : S := .brk
def law_b5 : Ss := (.cons law_b5_s0 .nil)
abbrev law_b4_s0 : S := (.ret (.lit (.bool false)))
def law_b4 : Ss := (.cons law_b4_s0 .nil)
abbrev law_b3_s0 : S := (.ifs (.nt (.call 12 (.cons (.call 3 (.cons (.var 2) (.cons (.var 6) .nil))) (.cons (.call 20 (.cons (.call 19 (.cons (.var 2) (.cons (.var 6) .nil))) .nil)) .nil)))) law_b4 .nil)
abbrev law_b3_s1 : S := (.ifs (.cmp .Lt (.blt .len (.cons (.var 6) .nil)) (.lit (.int 2))) law_b5 .nil)
abbrev law_b3_s2 : S := (.asg [8] false (.call 10 (.cons (.var 1) (.cons (.var 3) .nil))))
abbrev law_b3_s3 : S := (.ifs (.nt (.call 12 (.cons (.call 1 (.cons (.var 2) (.cons (.var 6) (.cons (.var 8) .nil)))) (.cons (.blt .tuple (.cons (.call 17 (.cons (.var 2) (.cons (.var 6) (.cons (.var 8) .nil)))) .nil)) .nil)))) law_b6 .nil)
abbrev law_b3_s4 : S := (.asg [9, 10] true (.call 18 (.cons (.var 2) (.cons (.var 6) .nil))))
abbrev law_b3_s5 : S := (.ifs (.or (.nt (.call 12 (.cons (.call 2 (.cons (.var 2) (.cons (.var 6) .nil))) (.cons (.var 10) .nil)))) (.one (.and (.var 4) (.one (.cmp .Lt (.var 9) (.bin .FloorDiv (.bin .Add (.bin .Mult (.lit (.int 2)) (.blt .len (.cons (.var 6) .nil))) (.lit (.int 3))) (.lit (.int 6)))))))) law_b7 .nil)
abbrev law_b3_s6 : S := (.asg [6] false (.call 11 (.cons (.var 1) (.cons (.lc 0 [11] false (.e (.bin .Add (.call 17 (.cons (.var 2) (.cons (.var 6) (.cons (.var 8) .nil)))) (.call 17 (.cons (.var 2) (.cons (.var 6) (.cons (.var 10) .nil)))))) (.some (.cmp .NotEq (.var 11) (.tup .nil))) (.var 11)) .nil))))
def law_b3 : Ss := (.cons law_b3_s0 (.cons law_b3_s1 (.cons law_b3_s2 (.cons law_b3_s3 (.cons law_b3_s4 (.cons law_b3_s5 (.cons law_b3_s6 .nil)))))))
abbrev law_b2_s0 : S := (.ret (.lit (.bool false)))
def law_b2 : Ss := (.cons law_b2_s0 .nil)
abbrev law_b1_s0 : S := (.ret (.lit (.bool false)))
def law_b1 : Ss := (.cons law_b1_s0 .nil)
abbrev law_b0_s0 : S := (.asg [2] false (.call 16 (.cons (.var 2) .nil)))
def law_b0 : Ss := (.cons law_b0_s0 .nil)
abbrev law_s0 : S := (.asg [1] false (.lstM (.cons (.call 9 (.cons (.var 0) (.cons (.lit (.int 0)) (.cons (.lit (.int 60)) .nil)))) (.cons (.lit (.int 0)) .nil))))
abbrev law_s1 : S := (.asg [2] false (.call 14 (.cons (.var 1) (.cons (.lit (.int 14)) .nil))))
abbrev law_s2 : S := (.ifs (.and (.cmp .Eq (.call 10 (.cons (.var 1) (.cons (.lit (.int 2)) .nil))) (.lit (.int 0))) (.one (.call 22 (.cons (.call 16 (.cons (.var 2) .nil)) .nil)))) law_b0 .nil)
abbrev law_s3 : S := (.asg [3] false (.blt .len (.cons (.idx (.var 2) (.lit (.int 1))) .nil)))
abbrev law_s4 : S := (.asg [4] false (.cmp .LtE (.blt .max (.cons (.lc 0 [5] false (.e (.idx (.var 2) (.lit (.int 1)))) .none (.blt .len (.cons (.idx (.var 5) (.lit (.int 1))) .nil))) .nil)) (.lit (.int 2))))
abbrev law_s5 : S := (.asg [6] false (.trg true (.var 3)))
abbrev law_s6 : S := (.ifs (.nt (.call 12 (.cons (.lst (.cons (.call 6 (.cons (.var 2) .nil)) (.cons (.call 5 (.cons (.var 2) .nil)) (.cons (.call 7 (.cons (.var 3) .nil)) .nil)))) (.cons (.lst (.cons (.var 4) (.cons (.call 19 (.cons (.var 2) (.cons (.var 6) .nil))) (.cons (.call 21 (.cons (.var 3) .nil)) .nil)))) .nil)))) law_b1 .nil)
abbrev law_s7 : S := (.ifs (.and (.var 4) (.one (.cmp .Gt (.call 3 (.cons (.var 2) (.cons (.var 6) .nil))) (.call 21 (.cons (.var 3) .nil))))) law_b2 .nil)
abbrev law_s8 : S := (.forS [7] false (.rg1 (.var 3)) law_b3)
abbrev law_s9 : S := (.forS [12] false (.e (.lst (.cons (.tup .nil) (.cons (.tup (.cons (.lit (.int 0)) .nil)) .nil)))) law_b8)
abbrev law_s10 : S := (.asg [3] false (.bin .Sub (.lit (.int 1000)) (.call 10 (.cons (.var 1) (.cons (.lit (.int 900)) .nil)))))
abbrev law_s11 : S := (.ifs (.nt (.call 12 (.cons (.call 7 (.cons (.var 3) .nil)) (.cons (.call 21 (.cons (.var 3) .nil)) .nil)))) law_b12 .nil)
abbrev law_s12 : S := (.ret (.call 12 (.cons (.lc 0 [14] false (.rg2 (.lit (.int 1)) (.lit (.int 10))) .none (.call 7 (.cons (.var 14) .nil))) (.cons (.lst (.cons (.lit (.int 0)) (.cons (.lit (.int 1)) (.cons (.lit (.int 2)) (.cons (.lit (.int 3)) (.cons (.lit (.int 3)) (.cons (.lit (.int 4)) (.cons (.lit (.int 4)) (.cons (.lit (.int 4)) (.cons (.lit (.int 5)) .nil)))))))))) .nil))))
def f_law : FD := ⟨1, 15, true, (.cons law_s0 (.cons law_s1 (.cons law_s2 (.cons law_s3 (.cons law_s4 (.cons law_s5 (.cons law_s6 (.cons law_s7 (.cons law_s8 (.cons law_s9 (.cons law_s10 (.cons law_s11 (.cons law_s12 .nil)))))))))))))⟩
def n_law : List Str := ["_law_script", "_law_box", "_law_history_here", "_law_many", "_law_two_here", "_law_make", "_law_left", "_law_turn", "_law_m", "_law_size", "_law_even_here", "_law_part", "_law_few", "e", "_law_n"]
def tab : List FD := [f_ancestors, f_parts_by, f_even_test, f_even_most, f_tree_for, f_even_tree, f_has_two, f_two_bound, f_law_cell, f_law_digits, f_law_draw, f_law_pick, f_law_same, f_law_word, f_law_history, f_law_above, f_law_two, f_law_parts, f_law_even, f_law_tree, f_law_depth, f_law_bound, f_law_is_whole, f_law]
end Ev
-- classes: BreakError BadState TooGreat ValueError

namespace Ev
open PySem
/-- a box of digits -/
def IsBox (o : Ob) : Prop := ∃ (ds : List Int) (k : Nat), o = .lst [.list (ds.map .int), .int k]

theorem cell_ok (n b : Nat) (h : Hq) (ns : List Int) (k : Nat) : ∃ v : Int, callN tab (n + 1) b 8 [.d (.list (ns.map .int)), .d (.int k)] h = .ok (.d (.int v)) h := by
  rw [call_of (fd := f_law_cell) _ _ rfl rfl]
  by_cases hk : k < ns.length
  · exact ⟨ns[k], by simp [f_law_cell, law_cell_b0, hk, atZ_nat]⟩
  · exact ⟨0, by simp [f_law_cell, law_cell_b0, hk, atZ_nat]⟩

theorem draw_ok (n b : Nat) {bx : Ob} (t : Hq) {m : Int} (hb : IsBox bx) (hm : 0 < m) : ∃ (v : Int) (bx' : Ob), 0 ≤ v ∧ v < m ∧ IsBox bx' ∧ callN tab (n + 1) b 10 [.l 0, .d (.int m)] (bx :: t) = .ok (.d (.int v)) (bx' :: t) := by
  obtain ⟨ds, k, rfl⟩ := hb
  rw [call_of (fd := f_law_draw) _ _ rfl rfl]
  by_cases hk : k < ds.length
  · refine ⟨ds[k].fmod m, .lst [.list (ds.map .int), .int ((k + 1 : Nat) : Int)], Int.fmod_nonneg_of_pos _ hm, Int.fmod_lt_of_pos _ hm, ⟨ds, k + 1, rfl⟩, ?_⟩
    simp [f_law_draw, law_draw_b0, hk, mod_i (Int.ne_of_gt hm), atZ_nat]
  · refine ⟨0, .lst [.list (ds.map .int), .int ((k + 1 : Nat) : Int)], Int.le_refl _, hm, ⟨ds, k + 1, rfl⟩, ?_⟩
    simp [f_law_draw, law_draw_b0, hk, mod_i (Int.ne_of_gt hm), atZ_nat]

def DgE (s : W) (h0 : Hq) (m : Nat) (env : Vars) (h : Hq) (c : Option W → Prop) (sd : Option W → Prop) : Prop :=
  ∃ x1 x2 x3 x4 ds, env = [some s, some (.d (.int 0)), some (.d (.int 60)), some (.l h0.length), x1, x2, x3, x4] ∧ c x2 ∧ sd x4 ∧ h = h0 ++ [.lst (List.map PyData.int ds)] ∧ ds.length ≤ m ∧ ∃ k : Int, x1 = some (.d (.int k))
def isI (o : Option W) : Prop := ∃ i : Int, o = some (.d (.int i))

theorem digits_turnA (b : Nat) (C : CallF) (s : W) (h0 : Hq) (m : Nat) (hm : m < 900000) (env : Vars) (h : Hq) (i : DgE s h0 m env h isI fun _ => True) (j : Int) : ∃ env' h', evSs b C law_digits_b3 (env.set 6 (some (.d (.int j)))) h = .ok (.nx env') h' ∧ DgE s h0 (m + 1) env' h' isI fun _ => True := by
  obtain ⟨x1, x2, x3, x4, ds, rfl, ⟨c, rfl⟩, -, rfl, hl, k, rfl⟩ := i
  by_cases hc : 0 < c
  · refine ⟨[some s, some (.d (.int 0)), some (.d (.int 60)), some (.l h0.length), some (.d (.int k)), some (.d (.int (c.fdiv 1000))), some (.d (.int j)), x4], h0 ++ [.lst (List.map PyData.int (ds ++ [c.fmod 1000]))], ?_, _, _, _, _, _, rfl, ⟨_, rfl⟩, trivial, rfl, by simp; omega, _, rfl⟩
    simp [law_digits_b3, law_digits_b4, hc, recvL_o last_at, app_o last_at (show (List.map PyData.int ds).length < 1000000 by simp; omega)]
  · refine ⟨[some s, some (.d (.int 0)), some (.d (.int 60)), some (.l h0.length), some (.d (.int k)), some (.d (.int c)), some (.d (.int j)), x4], h0 ++ [.lst (List.map PyData.int ds)], ?_, _, _, _, _, _, rfl, ⟨_, rfl⟩, trivial, rfl, by omega, _, rfl⟩
    simp [law_digits_b3, law_digits_b4, hc]

theorem digits_turnB (b : Nat) (C : CallF) (s : W) (h0 : Hq) (m : Nat) (hm : m < 900000) (env : Vars) (h : Hq) (i : DgE s h0 m env h isI isI) (j : Int) : ∃ env' h', evSs b C law_digits_b6 (env.set 6 (some (.d (.int j)))) h = .ok (.nx env') h' ∧ DgE s h0 (m + 1) env' h' isI isI := by
  obtain ⟨x1, x2, x3, x4, ds, rfl, ⟨c, rfl⟩, ⟨e, rfl⟩, rfl, hl, k, rfl⟩ := i
  refine ⟨[some s, some (.d (.int 0)), some (.d (.int 60)), some (.l h0.length), some (.d (.int k)), some (.d (.int c)), some (.d (.int j)), some (.d (.int ((e * 16807 + 7 * j + 1).fmod 2147483647)))], h0 ++ [.lst (List.map PyData.int (ds ++ [(((e * 16807 + 7 * j + 1).fmod 2147483647).fdiv 997).fmod 1000]))], ?_, _, _, _, _, _, rfl, ⟨_, rfl⟩, ⟨_, rfl⟩, rfl, by simp; omega, _, rfl⟩
  simp [law_digits_b6, recvL_o last_at, app_o last_at (show (List.map PyData.int ds).length < 1000000 by simp; omega)]

theorem digits_turn (b n : Nat) (ns : List Int) (h0 : Hq) (m : Nat) (hm : m < 800000) (env : Vars) (h : Hq) (i : ∃ x1 x2 x3 x4 ds, env = [some (.d (.list (ns.map .int))), some (.d (.int 0)), some (.d (.int 60)), some (.l h0.length), x1, x2, x3, x4] ∧ h = h0 ++ [.lst (List.map PyData.int ds)] ∧ ds.length ≤ m) (k : Nat) :
    ∃ env' h', evSs b (callN tab (n + 1)) law_digits_b0 (env.set 4 (some (.d (.int k)))) h = .ok (.nx env') h' ∧ ∃ x1 x2 x3 x4 ds, env' = [some (.d (.list (ns.map .int))), some (.d (.int 0)), some (.d (.int 60)), some (.l h0.length), x1, x2, x3, x4] ∧ h' = h0 ++ [.lst (List.map PyData.int ds)] ∧ ds.length ≤ m + 60 := by
  obtain ⟨x1, x2, x3, x4, ds, rfl, rfl, hl⟩ := i
  obtain ⟨v, hv⟩ := cell_ok n b (h0 ++ [.lst (List.map PyData.int ds)]) ns k
  -- the rest, by the cell's value made positive
  have rest : ∀ c : Int, ∃ env' h', evSs b (callN tab (n + 1)) (.cons (.ifs (.cmp .GtE (.var 5) (.bin .Pow (.lit (.int 10)) (.lit (.int 18)))) law_digits_b2 law_digits_b5) .nil) [some (.d (.list (ns.map .int))), some (.d (.int 0)), some (.d (.int 60)), some (.l h0.length), some (.d (.int k)), some (.d (.int c)), x3, x4] (h0 ++ [.lst (List.map PyData.int ds)]) = .ok (.nx env') h' ∧
      ∃ x1 x2 x3 x4 ds, env' = [some (.d (.list (ns.map .int))), some (.d (.int 0)), some (.d (.int 60)), some (.l h0.length), x1, x2, x3, x4] ∧ h' = h0 ++ [.lst (List.map PyData.int ds)] ∧ ds.length ≤ m + 60 := by
    intro c
    by_cases hc : (1000000000000000000 : Int) ≤ c
    · obtain ⟨env', h', e1, y1, y2, y3, y4, ds', rfl, -, -, rfl, hl', k', rfl⟩ := forGo_ok (f := fun w env h => match bindT [6] false w env with
        | some env => evSs b (callN tab (n + 1)) law_digits_b3 env h
        | none => .bad) (fun j env h => DgE (.d (.list (ns.map .int))) h0 (m + j) env h isI fun _ => True) (rangeUp 0 60) 0 [some (.d (.list (ns.map .int))), some (.d (.int 0)), some (.d (.int 60)), some (.l h0.length), some (.d (.int k)), some (.d (.int c)), x3, x4] (h0 ++ [.lst (List.map PyData.int ds)])
        ⟨_, _, _, _, ds, rfl, ⟨_, rfl⟩, trivial, rfl, by omega, _, rfl⟩ fun j w env h e i => by
          obtain ⟨rfl, hj⟩ := rangeUp_at e
          have := digits_turnA b (callN tab (n + 1)) _ h0 (m + (0 + j)) (by omega) env h i (0 + j)
          simpa [Nat.add_assoc] using this
      refine ⟨_, _, ?_, some (.d (.int k')), y2, y3, y4, ds', rfl, rfl, by simpa using hl'⟩
      simp [law_digits_b2, hc, s_for, rg_of]
      simp only [bind_1] at e1
      simp [e1]
    · obtain ⟨env', h', e1, y1, y2, y3, y4, ds', rfl, -, -, rfl, hl', k', rfl⟩ := forGo_ok (f := fun w env h => match bindT [6] false w env with
        | some env => evSs b (callN tab (n + 1)) law_digits_b6 env h
        | none => .bad) (fun j env h => DgE (.d (.list (ns.map .int))) h0 (m + j) env h isI isI) (rangeUp 0 12) 0 [some (.d (.list (ns.map .int))), some (.d (.int 0)), some (.d (.int 60)), some (.l h0.length), some (.d (.int k)), some (.d (.int c)), x3, some (.d (.int ((c * 48271 + k * 69621 + 11).fmod 2147483647)))] (h0 ++ [.lst (List.map PyData.int ds)])
        ⟨_, _, _, _, ds, rfl, ⟨_, rfl⟩, ⟨_, rfl⟩, rfl, by omega, _, rfl⟩ fun j w env h e i => by
          obtain ⟨rfl, hj⟩ := rangeUp_at e
          have := digits_turnB b (callN tab (n + 1)) _ h0 (m + (0 + j)) (by omega) env h i (0 + j)
          simpa [Nat.add_assoc] using this
      have hl2 : ds'.length ≤ m + 12 := by simpa using hl'
      refine ⟨_, _, ?_, some (.d (.int k')), y2, y3, y4, ds', rfl, rfl, by omega⟩
      have hd : decide ((1000000000000000000 : Int) ≤ c) = false := decide_eq_false hc
      simp only [s_cons, s_ifs, x_cmp, x_var, x_bin, x_lit, List.getElem?_cons_succ, List.getElem?_cons_zero, b_ok, op2_d, cmp_d, pow_18, liftO_s, ge_i, hd]
      clear hd hc
      simp [law_digits_b5, s_for, rg_of]
      simp only [bind_1] at e1
      simp [e1]
  by_cases hv0 : v < 0
  · obtain ⟨env', h', e1, e2⟩ := rest (1 - 2 * v)
    refine ⟨env', h', ?_, e2⟩
    rw [← e1]
    simp only [law_digits_b0, law_digits_b0_s0, law_digits_b0_s1, law_digits_b0_s2, law_digits_b1]
    simp [hv, hv0]
  · obtain ⟨env', h', e1, e2⟩ := rest v
    refine ⟨env', h', ?_, e2⟩
    rw [← e1]
    simp only [law_digits_b0, law_digits_b0_s0, law_digits_b0_s1, law_digits_b0_s2, law_digits_b1]
    simp [hv, hv0]

theorem digits_ok (n b : Nat) (h0 : Hq) (ns : List Int) : ∃ ds : List Int, callN tab (n + 2) b 9 [.d (.list (ns.map .int)), .d (.int 0), .d (.int 60)] h0 = .ok (.d (.list (ds.map .int))) h0 := by
  rw [call_of (fd := f_law_digits) _ _ rfl rfl]
  obtain ⟨env', h', e1, y1, y2, y3, y4, ds', rfl, rfl, -⟩ := forGo_ok (f := fun w env h => match bindT [4] false w env with
        | some env => evSs h0.length (callN tab (n + 1)) law_digits_b0 env h
        | none => .bad) (fun j env h => ∃ x1 x2 x3 x4 ds, env = [some (.d (.list (ns.map .int))), some (.d (.int 0)), some (.d (.int 60)), some (.l h0.length), x1, x2, x3, x4] ∧ h = h0 ++ [.lst (List.map PyData.int ds)] ∧ ds.length ≤ j * 60) (rangeUp 0 60) 0 
        [some (.d (.list (ns.map .int))), some (.d (.int 0)), some (.d (.int 60)), some (.l h0.length), none, none, none, none] (h0 ++ [.lst []])
        ⟨_, _, _, _, [], rfl, rfl, by simp⟩ fun j w env h e i => by
          obtain ⟨rfl, hj⟩ := rangeUp_at e
          have := digits_turn h0.length n ns h0 ((0 + j) * 60) (by omega) env h i j
          simpa [Nat.add_mul] using this
  refine ⟨ds', ?_⟩
  simp [f_law_digits, s_for, rg_of]
  simp only [bind_1] at e1
  simp [e1, evFrz]

end Ev

namespace Ev
open PySem
theorem pick_ok (n b : Nat) {bx : Ob} (t : Hq) (xs : List PyData) (hb : IsBox bx) (hx : xs ≠ []) : ∃ x ∈ xs, ∃ bx', IsBox bx' ∧ callN tab (n + 2) b 11 [.l 0, .d (.list xs)] (bx :: t) = .ok (.d x) (bx' :: t) := by
  obtain ⟨v, bx', v0, v1, hb', e⟩ := draw_ok n b t hb (m := 900) (by decide)
  have hl : (0 : Int) < xs.length := by
    have := List.length_pos_iff.mpr hx
    omega
  have q0 := Int.fmod_nonneg_of_pos v hl
  have q1 := Int.fmod_lt_of_pos v hl
  have q2 : (v.fmod xs.length).toNat < xs.length := by omega
  refine ⟨xs[(v.fmod xs.length).toNat], List.getElem_mem _, bx', hb', ?_⟩
  rw [call_of (fd := f_law_pick) _ _ rfl rfl]
  simp [f_law_pick, e, mod_i (Int.ne_of_gt hl), atZ_int q0, q2]

end Ev

namespace Ev
open PySem
theorem same_ok (n b : Nat) (h : Hq) {d : PyData} {k j : Nat} (s : Sm k j d) (hk : k ≤ 16777216 := by omega) (hj : j ≤ 150 := by omega) : callN tab (n + 1) b 12 [.d d, .d d] h = .ok (.d (.bool true)) h := by
  rw [call_of (fd := f_law_same) _ _ rfl rfl]
  simp [f_law_same, repr_d s hk hj]
theorem same_of (n b : Nat) (h : Hq) {d d' : PyData} {k j : Nat} (s : Sm k j d) (e : d = d') (hk : k ≤ 16777216 := by omega) (hj : j ≤ 150 := by omega) : callN tab (n + 1) b 12 [.d d, .d d'] h = .ok (.d (.bool true)) h := by
  subst e
  exact same_ok n b h s hk hj
end Ev

namespace Ev
open PySem
structure Par (k : Int) (l : List Int) : Prop where
  rg : ∀ x ∈ l, 0 ≤ x ∧ x < k
  pw : l.Pairwise (· < ·)
theorem Par.sub {k : Int} {l l' : List Int} (p : Par k l) (s : l'.Sublist l) : Par k l' := ⟨fun x hx => p.rg x (s.subset hx), p.pw.sublist s⟩

def rowD (r : Str × List Int) : PyData := .tuple [.str r.1, .tuple (r.2.map .int)]
def histD (rows : List (Str × List Int)) : PyData := .tuple [.str "history", .tuple (rows.map rowD)]
structure Rows (rows : List (Str × List Int)) : Prop where
  par : ∀ (k : Nat) r, rows[k]? = some r → Par k r.2
theorem Rows.snoc {rows : List (Str × List Int)} {r : Str × List Int} (h : Rows rows) (p : Par rows.length r.2) : Rows (rows ++ [r]) := ⟨fun k q e => by
  by_cases hk : k < rows.length
  · rw [List.getElem?_append_left hk] at e; exact h.par k q e
  · rw [List.getElem?_append_right (by omega)] at e
    by_cases hk2 : k - rows.length = 0
    · rw [hk2] at e; cases e
      have : k = rows.length := by omega
      subst this; exact p
    · rw [List.getElem?_eq_none (by simp; omega)] at e; cases e⟩

theorem par_len : ∀ {k : Nat} {l : List Int}, Par k l → l.length ≤ k := by
  intro k
  induction k with
  | zero =>
    intro l p
    cases l with
    | nil => simp
    | cons x l => have := p.rg x List.mem_cons_self; omega
  | succ k ih =>
    intro l p
    have q : Par k (l.filter fun x : Int => decide (x < (k : Int))) := ⟨fun x hx => by
      have h1 := p.rg x (List.mem_filter.mp hx).1
      have h2 := (List.mem_filter.mp hx).2
      simp only [decide_eq_true_eq] at h2
      exact ⟨h1.1, h2⟩, p.pw.sublist List.filter_sublist⟩
    have r := ih q
    have w : ∀ {l : List Int}, l.Pairwise (· < ·) → (∀ x ∈ l, x ≤ (k : Int)) → l.length ≤ (l.filter fun x : Int => decide (x < (k : Int))).length + 1 := by
      intro l
      induction l with
      | nil => intro _ _; simp
      | cons x l ih =>
        intro pw hx
        rw [List.pairwise_cons] at pw
        by_cases hk : x < k
        · have hf : List.filter (fun x : Int => decide (x < (k : Int))) (x :: l) = x :: List.filter (fun x : Int => decide (x < (k : Int))) l := by simp [List.filter_cons, hk]
          rw [hf]
          have := ih pw.2 fun y hy => hx y (List.mem_cons_of_mem _ hy)
          simp only [List.length_cons]
          omega
        · have e : x = k := by have := hx x List.mem_cons_self; omega
          have nl : l = [] := by
            cases l with
            | nil => rfl
            | cons y l =>
              have h1 := pw.1 y List.mem_cons_self
              have h2 := hx y (by simp)
              omega
          subst nl
          simp
    have := w p.pw fun x hx => by have := p.rg x hx; omega
    omega

end Ev

namespace Ev
open PySem
/-- a history as this law makes it -/
structure Hst (rows : List (Str × List Int)) : Prop where
  ne : rows ≠ []
  R : Rows rows
  l4 : ∀ (k : Nat) r, rows[k]? = some r → r.2.length ≤ 4
  last : ∀ k : Nat, k + 1 < rows.length → ∃ (c : Nat) (r : Str × List Int), k < c ∧ rows[c]? = some r ∧ (k : Int) ∈ r.2

/-! names -/
def chr (s : Str) (k : Nat) : Str := ⟨#[s.cps.toList.getD k 0]⟩
def alpha : Str := "abcdefghijklmnopqrstuvwxyz"
def sfx (k : Nat) : Str := if k = 0 then "" else if k = 1 then "x" else "zzzzzzz"
def wrd (k a : Nat) : Str := if k = 1 ∧ a = 3 then "from" else if k = 0 ∧ a = 5 then "make" else chr alpha ((a + k) % 26) ++ sfx (a % 3)
theorem idx_str {h : Hq} {s : Str} {k : Nat} (hs : s.length ≤ SZ) (hk : k < s.cps.toList.length) : evIdx h (.d (.str s)) (.d (.int k)) = .ok (.d (.str (chr s k))) h := by
  simp only [evIdx, if_pos hs, atZ_nat, List.getElem?_eq_getElem hk, chr]
  congr
  rw [List.getD_eq_getElem?_getD, List.getElem?_eq_getElem hk]
  rfl
theorem fmod_nat (a b : Nat) : (a : Int).fmod b = ((a % b : Nat) : Int) := by
  rw [Int.fmod_eq_emod_of_nonneg _ (by omega)]
  exact_mod_cast rfl
theorem word_ok (n b : Nat) (w0 : W) (h : Hq) {k a : Nat} : callN tab (n + 1) b 13 [w0, .d (.int k), .d (.int a)] h = .ok (.d (.str (wrd k a))) h := by
  rw [call_of (fd := f_law_word) _ _ rfl rfl]
  have m3 : a % 3 = 0 ∨ a % 3 = 1 ∨ a % 3 = 2 := by omega
  obtain ⟨r, hr⟩ : ∃ r, (a + k) % 26 = r := ⟨_, rfl⟩
  have hx : ∀ h : Hq, evIdx h (.d (.str "abcdefghijklmnopqrstuvwxyz")) (.d (.int r)) = .ok (.d (.str (chr alpha r))) h := fun h => idx_str (by decide +kernel) (by
    have : ("abcdefghijklmnopqrstuvwxyz" : Str).cps.toList.length = 26 := by decide +kernel
    omega)
  have e1 : ((a : Int) + (k : Int)).fmod 26 = (r : Int) := by rw [← hr, show (a : Int) + (k : Int) = ((a + k : Nat) : Int) by omega]; exact fmod_nat _ 26
  have e2 : (a : Int).fmod 3 = (a % 3 : Nat) := fmod_nat _ 3
  have l1 : ∀ m, (chr alpha m).length = 1 := fun m => rfl
  have ad : ∀ k m, (chr alpha m).length + (sfx k).length ≤ 1000000 := fun k m => by
    rw [l1]
    have : ∀ k, (sfx k).length ≤ 7 := fun k => by
      unfold sfx
      split
      · decide +kernel
      · split <;> decide +kernel
    have := this k
    omega
  have tail : evSs b (callN tab n) (.cons (.ret (.bin .Add (.idx (.lit (.str "abcdefghijklmnopqrstuvwxyz")) (.bin .Mod (.blt .int (.cons (.bin .Add (.var 2) (.var 1)) .nil)) (.lit (.int 26)))) (.idx (.lst (.cons (.lit (.str "")) (.cons (.lit (.str "x")) (.cons (.lit (.str "zzzzzzz")) .nil)))) (.bin .Mod (.blt .int (.cons (.var 2) .nil)) (.lit (.int 3)))))) .nil) [some w0, some (.d (.int k)), some (.d (.int a))] h
      = .ok (.rt (.d (.str (chr alpha r ++ sfx (a % 3))))) h := by
    rcases m3 with m3 | m3 | m3 <;> rw [m3] at e2
    · have := ad 0 r
      simp [e1, e2, hx, m3, sfx]
      rw [add_s (by simpa [sfx] using this)]
      simp
    · have := ad 1 r
      simp [e1, e2, hx, m3, sfx]
      rw [add_s (by simpa [sfx] using this)]
      simp
    · have := ad 2 r
      simp [e1, e2, hx, m3, sfx]
      rw [add_s (by simpa [sfx] using this)]
      simp
  by_cases h1 : k = 1 ∧ a = 3
  · obtain ⟨rfl, rfl⟩ := h1
    simp [f_law_word, law_word_b0, wrd]
  · by_cases h2 : k = 0 ∧ a = 5
    · obtain ⟨rfl, rfl⟩ := h2
      simp [f_law_word, law_word_b0, law_word_b1, wrd]
    · unfold wrd
      rw [if_neg h1, if_neg h2, hr]
      have q1 : (decide ((k : Int) = 1) && decide ((a : Int) = 3)) = false := by
        rw [Bool.and_eq_false_iff, decide_eq_false_iff_not, decide_eq_false_iff_not]
        omega
      have q2 : (decide ((k : Int) = 0) && decide ((a : Int) = 5)) = false := by
        rw [Bool.and_eq_false_iff, decide_eq_false_iff_not, decide_eq_false_iff_not]
        omega
      have c1 : evE b (callN tab n) (.and (.cmp .Eq (.var 1) (.lit (.int 1))) (.one (.cmp .Eq (.var 2) (.lit (.int 3))))) [some w0, some (.d (.int k)), some (.d (.int a))] h = .ok (.d (.bool false)) h := by
        by_cases z : (k : Int) = 1
        · have : ¬ (a : Int) = 3 := fun y => by simp [z, y] at q1
          simp [z, this]
        · simp [z]
      have c2 : evE b (callN tab n) (.and (.cmp .Eq (.var 1) (.lit (.int 0))) (.one (.cmp .Eq (.var 2) (.lit (.int 5))))) [some w0, some (.d (.int k)), some (.d (.int a))] h = .ok (.d (.bool false)) h := by
        by_cases z : (k : Int) = 0
        · have : ¬ (a : Int) = 5 := fun y => by simp [z, y] at q2
          simp [z, this]
        · have z' : ¬ k = 0 := by omega
          simp [z']
      show finR false h.length (evSs b (callN tab n) f_law_word.body [some w0, some (.d (.int k)), some (.d (.int a))] h) = _
      have t1 : ∀ (s : S) (ss : Ss), evS b (callN tab n) s [some w0, some (.d (.int k)), some (.d (.int a))] h = .ok (.nx [some w0, some (.d (.int k)), some (.d (.int a))]) h → evSs b (callN tab n) (.cons s ss) [some w0, some (.d (.int k)), some (.d (.int a))] h = evSs b (callN tab n) ss [some w0, some (.d (.int k)), some (.d (.int a))] h := fun s ss e => by simp only [s_cons, e, b_ok]
      unfold f_law_word
      simp only
      rw [t1 _ _ (by simp only [s_ifs, c1, b_ok, s_nil]), t1 _ _ (by simp only [s_ifs, c2, b_ok, s_nil]), tail]
      simp

/-! the rows of parents, as lists that change -/
def lo (l : List Int) : Ob := .lst (l.map .int)
def HH (bx : Ob) (t : Hq) (L : List (List Int)) : Hq := bx :: (t ++ (L.map lo ++ [.lsw ((List.range L.length).map fun i => .l (t.length + 1 + i))]))
section
variable {bx : Ob} {t : Hq} {L : List (List Int)}
theorem hh_at {i : Nat} {l : List Int} (e : L[i]? = some l) : (HH bx t L)[t.length + 1 + i]? = some (lo l) := by
  obtain ⟨hi, _⟩ := List.getElem?_eq_some_iff.mp e
  unfold HH
  rw [show t.length + 1 + i = (t.length + i) + 1 by omega, List.getElem?_cons_succ, List.getElem?_append_right (by omega), List.getElem?_append_left (by simp; omega), show t.length + i - t.length = i by omega, List.getElem?_map, e]
  rfl
theorem hh_top : (HH bx t L)[t.length + 1 + L.length]? = some (.lsw ((List.range L.length).map fun i => .l (t.length + 1 + i))) := by
  unfold HH
  rw [show t.length + 1 + L.length = (t.length + L.length) + 1 by omega, List.getElem?_cons_succ, List.getElem?_append_right (by omega), List.getElem?_append_right (by simp)]
  simp
theorem hh_set {i : Nat} (hi : i < L.length) (l : List Int) : (HH bx t L).set (t.length + 1 + i) (lo l) = HH bx t (L.set i l) := by
  unfold HH
  rw [show t.length + 1 + i = (t.length + i) + 1 by omega, List.set_cons_succ, List.set_append_right _ _ (by omega), List.set_append_left _ _ (by rw [List.length_map]; omega), show t.length + i - t.length = i by omega, List.map_set]
  simp
theorem hh_idx {c : Nat} (hc : c < L.length) : evIdx (HH bx t L) (.l (t.length + 1 + L.length)) (.d (.int c)) = .ok (.l (t.length + 1 + c)) (HH bx t L) := by
  simp only [evIdx, hh_top, atZ_nat]
  simp [hc]
theorem lc_new {f : W → Hq → R (Option W)} {o : Ob} : ∀ (ws : List W) (h : Hq), (∀ w h, f w h = .ok (some (.l h.length)) (h ++ [o])) → lcGo f ws h = .ok ((List.range ws.length).map fun i => .l (h.length + i)) (h ++ List.replicate ws.length o)
  | [], h, _ => by simp [lcGo]
  | w :: ws, h, e => by
    simp only [lcGo, e, b_ok, lc_new ws (h ++ [o]) e]
    congr 1
    · rw [List.length_cons, List.range_succ_eq_map]
      simp only [List.map_cons, List.map_map, Nat.add_zero, List.length_append, List.length_cons, List.length_nil]
      congr 1
      apply List.map_congr_left
      intro i _
      simp only [Function.comp]
      congr 1
      omega
    · simp [List.replicate_succ]
end
/-- behind k turns -/
structure PL (n k : Nat) (two : Bool) (L : List (List Int)) : Prop where
  len : L.length = n
  rg : ∀ (c : Nat) (l : List Int), L[c]? = some l → ∀ x ∈ l, 0 ≤ x ∧ x < c ∧ (two = false → x < k)
  nd : ∀ (c : Nat) (l : List Int), L[c]? = some l → l.Nodup
  sz : ∀ (c : Nat) (l : List Int), L[c]? = some l → l.length ≤ if two then 4 else if c ≤ k then 3 else 2
  all : ∀ j : Nat, j < k → ∃ (c : Nat) (l : List Int), j < c ∧ L[c]? = some l ∧ (j : Int) ∈ l
theorem PL.put {n k : Nat} {two : Bool} {L : List (List Int)} (p : PL n k two L) {c : Nat} {l : List Int} (e : L[c]? = some l) {x : Int} (hx : 0 ≤ x) (hxc : x < c) (hn : x ∉ l) {k' : Nat} (hk : k ≤ k') (hz : l.length + 1 ≤ if two then 4 else if c ≤ k' then 3 else 2) (hxk : two = false → x < k') (hall : ∀ j : Nat, j < k' → j < k ∨ (j : Int) = x) : PL n k' two (L.set c (l ++ [x])) := by
  obtain ⟨hc, _⟩ := List.getElem?_eq_some_iff.mp e
  have at_ : ∀ d m, (L.set c (l ++ [x]))[d]? = some m → (d = c ∧ m = l ++ [x]) ∨ (d ≠ c ∧ L[d]? = some m) := fun d m h => by
    by_cases hd : d = c
    · subst hd
      rw [List.getElem?_set_self hc] at h
      exact .inl ⟨rfl, (Option.some.inj h).symm⟩
    · rw [List.getElem?_set_ne (Ne.symm hd)] at h
      exact .inr ⟨hd, h⟩
  refine ⟨by rw [List.length_set, p.len], fun d m h y hy => ?_, fun d m h => ?_, fun d m h => ?_, fun j hj => ?_⟩
  · rcases at_ d m h with ⟨rfl, rfl⟩ | ⟨_, h⟩
    · rcases List.mem_append.mp hy with hy | hy
      · have := p.rg _ _ e y hy
        exact ⟨this.1, this.2.1, fun z => by have := this.2.2 z; omega⟩
      · simp only [List.mem_singleton] at hy
        subst hy
        exact ⟨hx, hxc, hxk⟩
    · have := p.rg _ _ h y hy
      exact ⟨this.1, this.2.1, fun z => by have := this.2.2 z; omega⟩
  · rcases at_ d m h with ⟨rfl, rfl⟩ | ⟨_, h⟩
    · rw [List.nodup_append]
      refine ⟨p.nd _ _ e, by simp, fun a ha b hb => ?_⟩
      simp only [List.mem_singleton] at hb
      subst hb
      exact fun z => hn (z ▸ ha)
    · exact p.nd _ _ h
  · rcases at_ d m h with ⟨rfl, rfl⟩ | ⟨_, h⟩
    · rw [List.length_append]; simpa using hz
    · have := p.sz _ _ h
      cases two
      · simp only [Bool.false_eq_true, if_false] at this ⊢
        split at this <;> split <;> omega
      · simpa using this
  · rcases hall j hj with h | h
    · obtain ⟨d, m, h1, h2, h3⟩ := p.all j h
      by_cases hd : d = c
      · subst hd
        rw [e] at h2
        cases h2
        exact ⟨d, _, h1, List.getElem?_set_self hc, List.mem_append_left _ h3⟩
      · exact ⟨d, m, h1, by rw [List.getElem?_set_ne (Ne.symm hd)]; exact h2, h3⟩
    · refine ⟨c, _, by omega, List.getElem?_set_self hc, ?_⟩
      rw [h]
      simp
def HE (most : Int) (n : Nat) (t : Hq) (k : Nat) (two : Bool) (env : Vars) (h : Hq) : Prop :=
  ∃ bx L x4 x5 x6 x7 x8, IsBox bx ∧ PL n k two L ∧ env = [some (.l 0), some (.d (.int most)), some (.d (.int n)), some (.l (t.length + 1 + n)), x4, x5, x6, x7, x8] ∧ h = HH bx t L

theorem hist_a (n b : Nat) {most : Int} {m : Nat} {t : Hq} {k : Nat} (hk : k + 1 < m) (hm : m ≤ 24) {env : Vars} {h : Hq} (i : HE most m t k false env h) :
    ∃ env' h', evSs b (callN tab (n + 2)) law_history_b0 (env.set 4 (some (.d (.int k)))) h = .ok (.nx env') h' ∧ HE most m t (k + 1) false env' h' := by
  obtain ⟨bx, L, x4, x5, x6, x7, x8, hb, p, rfl, rfl⟩ := i
  have hL := p.len
  obtain ⟨v, bx1, v0, v1, hb1, e1⟩ := draw_ok (n + 1) b (t ++ (L.map lo ++ [.lsw ((List.range L.length).map fun i => .l (t.length + 1 + i))])) hb (m := (m : Int) - 1 - k) (by omega)
  obtain ⟨u, bx2, u0, u1, hb2, e2⟩ := draw_ok (n + 1) b (t ++ (L.map lo ++ [.lsw ((List.range L.length).map fun i => .l (t.length + 1 + i))])) hb1 (m := 2) (by decide)
  have fin : ∀ {c : Nat}, k < c → c < m → ∃ env' h', evSs b (callN tab (n + 2)) (.cons (.ifs (.cmp .GtE (.blt .len (.cons (.idx (.var 3) (.var 5)) .nil)) (.lit (.int 2))) law_history_b1 .nil) (.cons (.app (.idx (.var 3) (.var 5)) (.var 4)) .nil)) [some (.l 0), some (.d (.int most)), some (.d (.int m)), some (.l (t.length + 1 + m)), some (.d (.int k)), some (.d (.int c)), x6, x7, x8] (HH bx2 t L) = .ok (.nx env') h' ∧ HE most m t (k + 1) false env' h' := by
    intro c hc1 hc2
    have app : ∀ {c : Nat} {l : List Int}, k < c → c < m → L[c]? = some l → (l.length + 1 ≤ if c ≤ k + 1 then 3 else 2) → ∃ env' h', evSs b (callN tab (n + 2)) (.cons (.app (.idx (.var 3) (.var 5)) (.var 4)) .nil) [some (.l 0), some (.d (.int most)), some (.d (.int m)), some (.l (t.length + 1 + m)), some (.d (.int k)), some (.d (.int c)), x6, x7, x8] (HH bx2 t L) = .ok (.nx env') h' ∧ HE most m t (k + 1) false env' h' := by
      intro c l h1 h2 el hz
      have hi : evIdx (HH bx2 t L) (.l (t.length + 1 + m)) (.d (.int c)) = .ok (.l (t.length + 1 + c)) (HH bx2 t L) := by rw [← hL]; exact hh_idx (by omega)
      have ha := hh_at (bx := bx2) (t := t) el
      refine ⟨_, _, ?_, bx2, L.set c (l ++ [(k : Int)]), some (.d (.int k)), some (.d (.int c)), x6, x7, x8, hb2, p.put el (by omega) (by omega) (fun z => by have := (p.rg _ _ el _ z).2.2 rfl; omega) (by omega) (by simpa using hz) (fun _ => by omega) (fun j hj => by omega), rfl, rfl⟩
      have h4 : (l.map PyData.int).length < 1000000 := by rw [List.length_map]; split at hz <;> omega
      simp [hi, recvL_o ha, app_o ha h4]
      rw [← hh_set (by omega)]
      simp [lo]
    obtain ⟨l, el⟩ : ∃ l, L[c]? = some l := ⟨L[c]'(by omega), List.getElem?_eq_getElem _⟩
    have hi : evIdx (HH bx2 t L) (.l (t.length + 1 + m)) (.d (.int c)) = .ok (.l (t.length + 1 + c)) (HH bx2 t L) := by rw [← hL]; exact hh_idx (by omega)
    have ha := hh_at (bx := bx2) (t := t) el
    by_cases h2 : 2 ≤ l.length
    · obtain ⟨l', el'⟩ : ∃ l, L[k + 1]? = some l := ⟨L[k + 1]'(by omega), List.getElem?_eq_getElem _⟩
      obtain ⟨env', h', e, q⟩ := app (c := k + 1) (by omega) (by omega) el' (by
        have := p.sz _ _ el'
        simp only [Bool.false_eq_true, if_false] at this
        rw [if_pos (by omega)]
        rw [if_neg (by omega)] at this
        omega)
      refine ⟨env', h', ?_, q⟩
      have h2' : (2 : Int) ≤ (l.length : Int) := by omega
      rw [← e]
      simp [hi, len_o ha, h2, h2', law_history_b1]
    · obtain ⟨env', h', e, q⟩ := app hc1 hc2 el (by
        split
        · omega
        · omega)
      refine ⟨env', h', ?_, q⟩
      have h2' : ¬ (2 : Int) ≤ (l.length : Int) := by omega
      rw [← e]
      simp [hi, len_o ha, h2, h2']
  by_cases hu : u = 0
  · obtain ⟨w, hw⟩ : ∃ w : Nat, v = (w : Int) := ⟨v.toNat, by omega⟩
    subst hw
    obtain ⟨env', h', e, q⟩ := fin (c := k + 1 + w) (by omega) (by omega)
    refine ⟨env', h', ?_, q⟩
    rw [← e]
    unfold HH law_history_b0
    simp [e1, e2, hu]
  · obtain ⟨env', h', e, q⟩ := fin (c := k + 1) (by omega) (by omega)
    refine ⟨env', h', ?_, q⟩
    rw [← e]
    unfold HH law_history_b0
    simp [e1, e2, hu]

theorem hist_b (n b : Nat) {most : Int} {m : Nat} {t : Hq} {k : Nat} (h1 : 1 < m) (hm : m ≤ 24) {env : Vars} {h : Hq} (i : HE most m t (m - 1) true env h) (k0 : Int) :
    ∃ env' h', evSs b (callN tab (n + 2)) law_history_b2 (env.set 6 (some (.d (.int k0)))) h = .ok (.nx env') h' ∧ HE most m t (m - 1) true env' h' := by
  obtain ⟨bx, L, x4, x5, x6, x7, x8, hb, p, rfl, rfl⟩ := i
  have hL := p.len
  obtain ⟨v, bx1, v0, v1, hb1, e1⟩ := draw_ok (n + 1) b (t ++ (L.map lo ++ [.lsw ((List.range L.length).map fun i => .l (t.length + 1 + i))])) hb (m := (m : Int) - 1) (by omega)
  obtain ⟨w, hw⟩ : ∃ w : Nat, v = (w : Int) := ⟨v.toNat, by omega⟩
  subst hw
  obtain ⟨u, bx2, u0, u1, hb2, e2⟩ := draw_ok (n + 1) b (t ++ (L.map lo ++ [.lsw ((List.range L.length).map fun i => .l (t.length + 1 + i))])) hb1 (m := 1 + (w : Int)) (by omega)
  obtain ⟨l, el⟩ : ∃ l, L[1 + w]? = some l := ⟨L[1 + w]'(by omega), List.getElem?_eq_getElem _⟩
  have hi : evIdx (HH bx2 t L) (.l (t.length + 1 + m)) (.d (.int (1 + (w : Int)))) = .ok (.l (t.length + 1 + (1 + w))) (HH bx2 t L) := by
    rw [← hL, show (1 + (w : Int)) = ((1 + w : Nat) : Int) by omega]; exact hh_idx (by omega)
  have ha := hh_at (bx := bx2) (t := t) el
  have h4 : (l.map PyData.int).length < 1000000 := by
    have := p.sz _ _ el
    rw [List.length_map]
    simp at this
    omega
  have st : ∀ {env' : Vars} {h' : Hq}, evSs b (callN tab (n + 2)) (.cons (.ifs (.and (.cmp .NotIn (.var 7) (.idx (.var 3) (.var 5))) (.one (.cmp .Lt (.blt .len (.cons (.idx (.var 3) (.var 5)) .nil)) (.lit (.int 4))))) law_history_b3 .nil) .nil) [some (.l 0), some (.d (.int most)), some (.d (.int m)), some (.l (t.length + 1 + m)), x4, some (.d (.int (1 + (w : Int)))), some (.d (.int k0)), some (.d (.int u)), x8] (HH bx2 t L) = .ok (.nx env') h' →
      evSs b (callN tab (n + 2)) law_history_b2 [some (.l 0), some (.d (.int most)), some (.d (.int m)), some (.l (t.length + 1 + m)), x4, x5, some (.d (.int k0)), x7, x8] (HH bx t L) = .ok (.nx env') h' := fun {env' h'} e => by
    rw [← e]
    unfold HH law_history_b2
    simp [e1, e2]
  have c1 : cmpW .NotIn (.d (.int u)) (.l (t.length + 1 + (1 + w))) (HH bx2 t L) = .ok (.d (.bool (!decide (u ∈ l)))) (HH bx2 t L) := by
    rw [cmp_dl ha, nin_l dpt_i, any_int]; rfl
  by_cases hu : u ∈ l
  · exact ⟨_, _, st (by simp [hi, c1, hu]), bx2, L, x4, some (.d (.int (1 + (w : Int)))), some (.d (.int k0)), some (.d (.int u)), x8, hb2, p, rfl, rfl⟩
  · by_cases hl : l.length < 4
    · have hl' : (l.length : Int) < 4 := by omega
      refine ⟨_, _, st (by
        simp [hi, c1, hu, len_o ha, hl', law_history_b3, recvL_o ha, app_o ha h4]
        rfl), bx2, L.set (1 + w) (l ++ [u]), x4, some (.d (.int (1 + (w : Int)))), some (.d (.int k0)), some (.d (.int u)), x8, hb2, p.put el u0 (by omega) hu (Nat.le_refl _) (by simp; omega) (fun z => by cases z) (fun j hj => .inl hj), rfl, ?_⟩
      rw [← hh_set (by omega)]
      simp [lo]
    · have hl' : ¬ (l.length : Int) < 4 := by omega
      exact ⟨_, _, st (by simp [hi, c1, hu, len_o ha, hl']), bx2, L, x4, some (.d (.int (1 + (w : Int)))), some (.d (.int k0)), some (.d (.int u)), x8, hb2, p, rfl, rfl⟩
def rowA (at_ : Nat) (k : Nat) (l : List Int) : Str × List Int := (wrd k at_, sortI l)
def rowsA (at_ : Nat) (L : List (List Int)) : List (Str × List Int) := (List.range L.length).map fun k => rowA at_ k (L[k]?.getD [])
theorem rowsA_at {at_ : Nat} {L : List (List Int)} {k : Nat} {r : Str × List Int} (e : (rowsA at_ L)[k]? = some r) : ∃ l, L[k]? = some l ∧ r = rowA at_ k l := by
  unfold rowsA at e
  rw [List.getElem?_map] at e
  obtain ⟨j, ej, rfl⟩ := Option.map_eq_some_iff.mp e
  obtain ⟨hj, ej⟩ := List.getElem?_eq_some_iff.mp ej
  rw [List.getElem_range] at ej
  subst ej
  rw [List.length_range] at hj
  exact ⟨L[k], List.getElem?_eq_getElem hj, by rw [List.getElem?_eq_getElem hj]; rfl⟩
theorem rows_hst {at_ m : Nat} {L : List (List Int)} (p : PL m (m - 1) true L) (hm : 0 < m) : Hst (rowsA at_ L) := by
  have hL := p.len
  refine ⟨fun z => ?_, ⟨fun k r e => ?_⟩, fun k r e => ?_, fun k hk => ?_⟩
  · have := congrArg List.length z
    simp only [rowsA, List.length_map, List.length_range, List.length_nil] at this
    omega
  · obtain ⟨l, el, rfl⟩ := rowsA_at e
    refine ⟨fun x hx => ?_, ?_⟩
    · have := p.rg _ _ el x (mem_sortI.mp hx)
      exact ⟨this.1, this.2.1⟩
    · have h1 := sortI_pw l
      have h2 : (sortI l).Nodup := (sortI_perm l).nodup_iff.mpr (p.nd _ _ el)
      exact (List.pairwise_and_iff.mpr ⟨h1, h2⟩).imp fun h => by omega
  · obtain ⟨l, el, rfl⟩ := rowsA_at e
    have := p.sz _ _ el
    show (sortI l).length ≤ 4
    rw [(sortI_perm l).length_eq]
    simpa using this
  · have hk' : k < m - 1 := by simp [rowsA] at hk; omega
    obtain ⟨c, l, h1, h2, h3⟩ := p.all k hk'
    obtain ⟨hc, _⟩ := List.getElem?_eq_some_iff.mp h2
    refine ⟨c, rowA at_ c l, h1, ?_, mem_sortI.mpr h3⟩
    unfold rowsA
    rw [List.getElem?_map, List.getElem?_range hc]
    simp [h2]
theorem hist_end (n b : Nat) {most : Int} {m : Nat} {t : Hq} (hm : m ≤ 24) {bx : Ob} {L : List (List Int)} {at_ : Nat} {x4 x5 x6 x7 : Option W} (p : PL m (m - 1) true L) :
    evS b (callN tab (n + 2)) law_history_s5
      [some (.l 0), some (.d (.int most)), some (.d (.int m)), some (.l (t.length + 1 + m)), x4, x5, x6, x7, some (.d (.int at_))] (HH bx t L) = .ok (.rt (.d (histD (rowsA at_ L)))) (HH bx t L) := by
  have hL := p.len
  simp [rg_nat (n := m) (by omega)]
  rw [rangeUp_nat, lc_map (g := fun k => W.d (rowD (rowA at_ k (L[k]?.getD []))))]
  · simp [histD, rowsA, hL]
  · intro k hk
    have hk := List.mem_range.mp hk
    obtain ⟨l, el⟩ : ∃ l, L[k]? = some l := ⟨L[k]'(by omega), List.getElem?_eq_getElem _⟩
    have hi : evIdx (HH bx t L) (.l (t.length + 1 + m)) (.d (.int k)) = .ok (.l (t.length + 1 + k)) (HH bx t L) := by rw [← hL]; exact hh_idx (by omega)
    have ha : (HH bx t L)[t.length + 1 + k]? = some (.lst (l.map .int)) := hh_at (bx := bx) (t := t) el
    simp [word_ok, hi, sorted_o ha, el, rowD, rowA]

theorem history_ok (n b : Nat) {bx : Ob} (t : Hq) {most : Int} (hb : IsBox bx) (h0 : 0 < most) (h1 : most < 24) : ∃ rows bx', Hst rows ∧ (rows.length : Int) ≤ most ∧ IsBox bx' ∧ callN tab (n + 3) b 14 [.l 0, .d (.int most)] (bx :: t) = .ok (.d (histD rows)) (bx' :: t) := by
  rw [call_of (fd := f_law_history) _ _ rfl rfl]
  obtain ⟨v, bx1, v0, v1, hb1, e⟩ := draw_ok (n + 1) (t.length + 1) t hb h0
  obtain ⟨m, hm⟩ : ∃ m : Nat, 1 + v = (m : Int) := ⟨(1 + v).toNat, by omega⟩
  have m0 : 0 < m := by omega
  have m24 : m ≤ 24 := by omega
  -- the lists of parents
  have hnew := lc_new (f := fun w h => .ok (some (.l h.length)) (h ++ [.lst []])) (o := .lst []) (rangeUp 0 m) (bx1 :: t) (fun w h => rfl)
  have hrl : (rangeUp 0 (m : Int)).length = m := by rw [rangeUp_len]; omega
  have hll : (bx1 :: t).length = t.length + 1 := rfl
  rw [hrl, hll] at hnew
  have hH : (bx1 :: t) ++ List.replicate m (lo []) ++ [.lsw ((List.range m).map fun i => .l (t.length + 1 + i))] = HH bx1 t (List.replicate m []) := by
    unfold HH
    simp [lo]
  have p0 : PL m 0 false (List.replicate m []) := by
    have e0 : ∀ (c : Nat) (l : List Int), (List.replicate m ([] : List Int))[c]? = some l → l = [] := fun c l h => by
      rw [List.getElem?_replicate] at h
      split at h
      · exact (Option.some.inj h).symm
      · cases h
    refine ⟨by simp, fun c l h x hx => ?_, fun c l h => ?_, fun c l h => ?_, fun j hj => by omega⟩
    · rw [e0 c l h] at hx; simp at hx
    · rw [e0 c l h]; simp
    · rw [e0 c l h]; simp
  obtain ⟨env1, h1', e1, bx2, L1, x4, x5, x6, x7, x8, hb2, p1, rfl, rfl⟩ := for_up (f := fun w env h => evSs (t.length + 1) (callN tab (n + 2)) law_history_b0 (env.set 4 (some w)) h) (m - 1) (fun k env h => HE most m t k false env h)
    (env := [some (.l 0), some (.d (.int most)), some (.d (.int m)), some (.l (t.length + 1 + m)), none, none, none, none, none]) (h := HH bx1 t (List.replicate m [])) ⟨bx1, _, _, _, _, _, _, hb1, p0, rfl, rfl⟩ fun j env h hj i => hist_a n (t.length + 1) (by omega) m24 i
  obtain ⟨u, bx3, u0, u1, hb3, e2⟩ := draw_ok (n + 1) (t.length + 1) (t ++ (L1.map lo ++ [.lsw ((List.range L1.length).map fun i => .l (t.length + 1 + i))])) hb2 (m := 5) (by decide)
  have p2 : PL m (m - 1) true L1 := ⟨p1.len, fun c l h x hx => by have := p1.rg c l h x hx; exact ⟨this.1, this.2.1, fun z => by cases z⟩, p1.nd, fun c l h => by
    have := p1.sz c l h
    simp only [Bool.false_eq_true, if_false] at this
    simp only [if_true]
    split at this <;> omega, p1.all⟩
  obtain ⟨w, hw⟩ : ∃ w : Nat, u * (if (1 : Int) < (m : Int) then 1 else 0) = (w : Int) := ⟨(u * (if (1 : Int) < (m : Int) then 1 else 0)).toNat, by split <;> omega⟩
  have w5 : w ≤ 5 := by split at hw <;> omega
  obtain ⟨env2, h2', e3, bx4, L2', x4', x5', x6', x7', x8', hb4, p4, rfl, rfl⟩ := for_up (f := fun w env h => evSs (t.length + 1) (callN tab (n + 2)) law_history_b2 (env.set 6 (some w)) h) w (fun k env h => HE most m t (m - 1) true env h)
    (env := [some (.l 0), some (.d (.int most)), some (.d (.int m)), some (.l (t.length + 1 + m)), x4, x5, x6, x7, x8]) (h := HH bx3 t L1) ⟨bx3, _, _, _, _, _, _, hb3, p2, rfl, rfl⟩ fun j env h hj i => hist_b n (t.length + 1) (k := 0) (by
      by_cases z : (1 : Int) < m
      · omega
      · rw [if_neg z] at hw
        omega) m24 i _
  obtain ⟨a, bx5, a0, a1, hb5, e4⟩ := draw_ok (n + 1) (t.length + 1) (t ++ (L2'.map lo ++ [.lsw ((List.range L2'.length).map fun i => .l (t.length + 1 + i))])) hb4 (m := 12) (by decide)
  obtain ⟨at_, hat⟩ : ∃ w : Nat, a = (w : Int) := ⟨a.toNat, by omega⟩
  subst hat
  refine ⟨rowsA at_ L2', bx5, rows_hst p4 m0, ?_, hb5, ?_⟩
  · have := p4.len
    simp [rowsA, this]
    omega
  have e5 := hist_end n (t.length + 1) (most := most) (t := t) m24 (bx := bx5) (at_ := at_) (x4 := x4') (x5 := x5') (x6 := x6') (x7 := x7') p4
  have rg1 : rgOk 0 (m : Int) = true := rg_nat (by omega)
  have rg2 : rgOk 0 ((m : Int) - 1) = true := rg_of (by omega) (by omega) (by omega) (by omega)
  have rg3 : rgOk 0 (w : Int) = true := rg_nat (by omega)
  have hc : ((m - 1 : Nat) : Int) = (m : Int) - 1 := by omega
  rw [hc] at e1
  have tk : (HH bx5 t L2').take (t.length + 1) = bx5 :: t := by
    unfold HH
    simp
  have hm' : evBin .Add (.int 1) (.int v) = some (.int m) := by rw [add_i, hm]
  have hlen : ((bx1 :: t) ++ List.replicate m (Ob.lst [])).length = t.length + 1 + m := by simp; omega
  have hmul : evBin .Mult (.int u) (.int (if (1 : Int) < (m : Int) then 1 else 0)) = some (.int w) := by
    rw [mul_r (by split <;> decide) (by split <;> decide), hw]
  have hH' : (bx1 :: t) ++ List.replicate m (Ob.lst []) ++ [.lsw ((List.range m).map fun i => .l (t.length + 1 + i))] = HH bx1 t (List.replicate m []) := hH
  show finR true (t.length + 1) (evSs (t.length + 1) (callN tab (n + 2)) f_law_history.body [some (.l 0), some (.d (.int most)), none, none, none, none, none, none, none] (bx :: t)) = _
  unfold f_law_history
  simp only
  rw [seq_nx (s := law_history_s0) (env' := [some (.l 0), some (.d (.int most)), some (.d (.int m)), none, none, none, none, none, none]) (h' := bx1 :: t) (by simp [e, hm']),
    seq_nx (s := law_history_s1) (env' := [some (.l 0), some (.d (.int most)), some (.d (.int m)), some (.l (t.length + 1 + m)), none, none, none, none, none]) (h' := HH bx1 t (List.replicate m [])) (by
      simp [rg1]
      rw [hnew]
      simp only [noEx_ok, b_ok, lcEnd, hlen, hH']),
    seq_nx (s := law_history_s2) (env' := [some (.l 0), some (.d (.int most)), some (.d (.int m)), some (.l (t.length + 1 + m)), x4, x5, x6, x7, x8]) (h' := HH bx2 t L1) (by simp [s_for, rg2, e1]),
    seq_nx (s := law_history_s3) (env' := [some (.l 0), some (.d (.int most)), some (.d (.int m)), some (.l (t.length + 1 + m)), x4', x5', x6', x7', x8']) (h' := HH bx4 t L2') (by
      have e2' : callN tab (n + 2) (t.length + 1) 10 [.l 0, .d (.int 5)] (HH bx2 t L1) = .ok (.d (.int u)) (HH bx3 t L1) := e2
      simp only [s_for, x_rg1, x_bin, x_call, x_cons, x_var, List.getElem?_cons_succ, List.getElem?_cons_zero, b_ok, x_lit, x_nil, e2', x_blt, x_cmp, cmp_d, gt_i, liftO_s, int_b, decide_eq_true_eq, op2_d, hmul, rg3, if_true, kpt_n, bind_1, e3]),
    seq_nx (s := law_history_s4) (env' := [some (.l 0), some (.d (.int most)), some (.d (.int m)), some (.l (t.length + 1 + m)), x4', x5', x6', x7', some (.d (.int at_))]) (h' := HH bx5 t L2') (by
      have e4' : callN tab (n + 2) (t.length + 1) 10 [.l 0, .d (.int 12)] (HH bx4 t L2') = .ok (.d (.int at_)) (HH bx5 t L2') := e4
      simp [e4']), seq_rt e5]
  simp [tk]
end Ev

namespace Ev
open PySem
def parI (rows : List (Str × List Int)) (k : Nat) : List Int := (rows[k]?.map (·.2)).getD []
def anStep (rows : List (Str × List Int)) (found : List Int) (k : Nat) : List Int := if (k : Int) ∈ found then found ++ (parI rows k).filter (fun p => !decide (p ∈ found)) else found
def ancN (rows : List (Str × List Int)) (m : Nat) : Nat → List Int
  | 0 => [(m : Int)]
  | j + 1 => anStep rows (ancN rows m j) (m - j)
def anc (rows : List (Str × List Int)) (m : Nat) : List Int := ancN rows m (m + 1)
theorem parI_len {rows : List (Str × List Int)} (hR : Rows rows) (k : Nat) : (parI rows k).length ≤ k := by
  unfold parI
  cases e : rows[k]? with
  | none => simp
  | some r => exact par_len (hR.par k r e)
theorem parI_nd {rows : List (Str × List Int)} (hR : Rows rows) (k : Nat) : (parI rows k).Nodup := by
  unfold parI
  cases e : rows[k]? with
  | none => simp
  | some r => exact (hR.par k r e).pw.imp fun h => by omega
theorem ancN_len {rows : List (Str × List Int)} (hR : Rows rows) (m : Nat) : ∀ j, (ancN rows m j).length ≤ 1 + m * j
  | 0 => by simp [ancN]
  | j + 1 => by
    have h1 := ancN_len hR m j
    have h2 := parI_len hR (m - j)
    have h3 := List.length_filter_le (fun p => !decide (p ∈ ancN rows m j)) (parI rows (m - j))
    have h4 : m * (j + 1) = m * j + m := Nat.mul_succ m j
    unfold ancN anStep
    split
    · rw [List.length_append]; omega
    · omega
theorem hist_at (h : Hq) {rows : List (Str × List Int)} {k : Nat} (hk : k < rows.length) : (evIdx h (.d (histD rows)) (.d (.int 1))) = .ok (.d (.tuple (rows.map rowD))) h ∧ evIdx h (.d (.tuple (rows.map rowD))) (.d (.int k)) = .ok (.d (rowD rows[k])) h ∧ evIdx h (.d (rowD rows[k])) (.d (.int 1)) = .ok (.d (.tuple ((parI rows k).map .int))) h := by
  refine ⟨by simp [histD], by simp [atZ_nat, hk], ?_⟩
  simp [rowD, parI, hk]
theorem hist_1 (h : Hq) {rows : List (Str × List Int)} : (evIdx h (.d (histD rows)) (.d (.int 1))) = .ok (.d (.tuple (rows.map rowD))) h := by simp [histD]

theorem anc_inner (b : Nat) (C : CallF) (hist mm kk : W) (x0 : Option W) (h0 : Hq) (found ps : List Int) (nd : ps.Nodup) (hl : found.length + ps.length < 900000) :
    ∃ x, forGo (fun w env h => match bindT [4] false w env with
        | some env => evSs b C ancestors_b2 env h
        | none => .bad) (ps.map (W.d ∘ PyData.int)) [some hist, some mm, some (.l h0.length), some kk, x0] (h0 ++ [.lst (found.map .int)]) = .ok (.nx [some hist, some mm, some (.l h0.length), some kk, x]) (h0 ++ [.lst ((found ++ ps.filter fun p => !decide (p ∈ found)).map .int)]) := by
  obtain ⟨env', h', e, x, rfl, rfl⟩ := forGo_ok (f := fun w env h => match bindT [4] false w env with
        | some env => evSs b C ancestors_b2 env h
        | none => .bad) (fun i env h => ∃ x, env = [some hist, some mm, some (.l h0.length), some kk, x] ∧ h = h0 ++ [.lst ((found ++ (ps.take i).filter fun p => !decide (p ∈ found)).map .int)]) (ps.map (W.d ∘ PyData.int)) 0 [some hist, some mm, some (.l h0.length), some kk, x0] (h0 ++ [.lst (found.map .int)]) ⟨x0, rfl, by simp⟩ fun j w env h e i => by
          obtain ⟨x, rfl, rfl⟩ := i
          rw [List.getElem?_map] at e
          cases q : ps[j]? with
          | none => rw [q] at e; cases e
          | some p =>
            rw [q] at e
            cases e
            obtain ⟨hj, hp⟩ := List.getElem?_eq_some_iff.mp q
            have tk : ps.take (j + 1) = ps.take j ++ [p] := by rw [List.take_succ, q]; rfl
            have np : p ∉ ps.take j := fun z => by
              obtain ⟨i, hi⟩ := List.getElem?_of_mem z
              have hij : i < j := by
                have := (List.getElem?_eq_some_iff.mp hi).1
                rw [List.length_take] at this
                omega
              rw [List.getElem?_take_of_lt hij] at hi
              obtain ⟨hi1, hi2⟩ := List.getElem?_eq_some_iff.mp hi
              exact List.pairwise_iff_getElem.mp nd i j hi1 hj hij (by rw [hi2, hp])
            refine ⟨[some hist, some mm, some (.l h0.length), some kk, some (.d (.int p))], h0 ++ [.lst ((found ++ (ps.take (j + 1)).filter fun p => !decide (p ∈ found)).map .int)], ?_, _, rfl, by simp only [Nat.zero_add]⟩
            have hlen : (List.map PyData.int (found ++ (ps.take j).filter fun p => !decide (p ∈ found))).length < 1000000 := by
              have := List.length_filter_le (fun p => !decide (p ∈ found)) (ps.take j)
              rw [List.length_take] at this
              simp only [List.length_map, List.length_append]
              omega
            have hin : decide (p ∈ found ++ (ps.take j).filter fun p => !decide (p ∈ found)) = decide (p ∈ found) := by
              rw [decide_eq_decide, List.mem_append, List.mem_filter]
              exact ⟨fun h => h.elim id fun h => absurd h.1 np, .inl⟩
            simp only [Nat.zero_add]
            rw [tk, List.filter_append]
            by_cases hf : p ∈ found
            · simp only [Function.comp, bind_1, ancestors_b2, s_cons, s_ifs, x_cmp, x_var, List.set_cons_succ, List.set_cons_zero, List.getElem?_cons_succ, List.getElem?_cons_zero, b_ok, cmp_dl last_at, nin_l dpt_i, any_int, hin, liftO_s, hf, decide_true, Bool.not_true, s_nil, List.filter_cons_of_neg, List.filter_nil, List.append_nil]
              simp [hf]
            · simp only [Function.comp, bind_1, ancestors_b2, ancestors_b3, s_cons, s_ifs, x_cmp, x_var, List.set_cons_succ, List.set_cons_zero, List.getElem?_cons_succ, List.getElem?_cons_zero, b_ok, cmp_dl last_at, nin_l dpt_i, any_int, hin, liftO_s, hf, decide_false, Bool.not_false, s_nil, s_app, recvL_o last_at, if_true, app_o last_at hlen, last_set]
              simp [hf]
  refine ⟨x, ?_⟩
  rw [e]
  simp

theorem ancestors_ok (n b : Nat) (h0 : Hq) {rows : List (Str × List Int)} (hR : Rows rows) (hr : rows.length ≤ 24) {m : Nat} (hm : m < rows.length) : callN tab (n + 1) b 0 [.d (histD rows), .d (.int m)] h0 = .ok (.d (.tuple ((sortI (anc rows m)).map .int))) h0 := by
  rw [call_of (fd := f_ancestors) _ _ rfl rfl]
  obtain ⟨env', h', e, x1, x2, rfl, rfl⟩ := forGo_ok (f := fun w env h => match bindT [3] false w env with
        | some env => evSs h0.length (callN tab n) ancestors_b0 env h
        | none => .bad) (fun j env h' => ∃ x1 x2, env = [some (.d (histD rows)), some (.d (.int m)), some (.l h0.length), x1, x2] ∧ h' = h0 ++ [.lst ((ancN rows m j).map .int)]) (rangeDn m (-1)) 0 [some (.d (histD rows)), some (.d (.int m)), some (.l h0.length), none, none] (h0 ++ [.lst [.int m]]) ⟨_, _, rfl, rfl⟩ fun j w env h' e i => by
          obtain ⟨rfl, hj⟩ := rangeDn_at e
          obtain ⟨x1, x2, rfl, rfl⟩ := i
          simp only [Nat.zero_add]
          have hk : m - j < rows.length := by omega
          have ek : ((m : Int) - (j : Int)) = ((m - j : Nat) : Int) := by omega
          rw [ek]
          obtain ⟨q1, q2, q3⟩ := hist_at (h0 ++ [.lst ((ancN rows m j).map .int)]) hk
          by_cases hf : ((m - j : Nat) : Int) ∈ ancN rows m j
          · have hl : (ancN rows m j).length + (parI rows (m - j)).length < 900000 := by
              have h1 := ancN_len hR m j
              have h2 := parI_len hR (m - j)
              have h3 : m * j ≤ 24 * 24 := Nat.mul_le_mul (by omega) (by omega)
              omega
            obtain ⟨x, e⟩ := anc_inner h0.length (callN tab n) (.d (histD rows)) (.d (.int m)) (.d (.int (m - j : Nat))) x2 h0 (ancN rows m j) (parI rows (m - j)) (parI_nd hR _) hl
            refine ⟨_, _, ?_, some (.d (.int (m - j : Nat))), x, rfl, rfl⟩
            have ea : ancN rows m (j + 1) = ancN rows m j ++ (parI rows (m - j)).filter (fun p => !decide (p ∈ ancN rows m j)) := by simp only [ancN, anStep, if_pos hf]
            rw [ea]
            simp only [bind_1, List.set_cons_succ, List.set_cons_zero, ancestors_b0, ancestors_b1, s_cons, s_ifs, x_cmp, x_var, List.getElem?_cons_succ, List.getElem?_cons_zero, b_ok, cmp_dl last_at, in_l dpt_i, any_int, hf, decide_true, liftO_s, s_for, x_ite, x_idx, x_lit, q1, q2, q3, it_t, live_d, kpt_n, List.map_map, s_nil]
            simp only [bind_1] at e
            simp only [e, b_ok, s_nil]
          · refine ⟨_, _, ?_, some (.d (.int (m - j : Nat))), x2, rfl, rfl⟩
            have ea : ancN rows m (j + 1) = ancN rows m j := by simp only [ancN, anStep, if_neg hf]
            rw [ea]
            simp only [bind_1, List.set_cons_succ, List.set_cons_zero, ancestors_b0, s_cons, s_ifs, x_cmp, x_var, List.getElem?_cons_succ, List.getElem?_cons_zero, b_ok, cmp_dl last_at, in_l dpt_i, any_int, hf, decide_false, liftO_s, s_nil]
  have rg : rgOk (-1) m = true := rg_of (by omega) (by omega) (by omega) (by omega)
  have hlen : 0 + (rangeDn (m : Int) (-1)).length = m + 1 := by rw [rangeDn_len]; omega
  rw [hlen] at e
  simp only [bind_1] at e
  simp [f_ancestors, s_for, rg, e, sorted_o last_at, anc]

end Ev

namespace Ev
open PySem
/-- m is broken by c -/
def Ab (rows : List (Str × List Int)) (m c : Nat) : Bool := decide ((c : Int) ∈ anc rows m)
theorem mem_anStep {rows : List (Str × List Int)} {found : List Int} {k : Nat} {c : Int} : c ∈ anStep rows found k ↔ c ∈ found ∨ ((k : Int) ∈ found ∧ c ∈ parI rows k) := by
  unfold anStep
  split
  · rename_i h
    simp only [List.mem_append, List.mem_filter, Bool.not_eq_true', decide_eq_false_iff_not]
    constructor
    · rintro (a | ⟨a, _⟩)
      · exact .inl a
      · exact .inr ⟨h, a⟩
    · rintro (a | ⟨_, a⟩)
      · exact .inl a
      · by_cases z : c ∈ found
        · exact .inl z
        · exact .inr ⟨a, z⟩
  · rename_i h
    constructor
    · exact .inl
    · rintro (a | ⟨a, _⟩)
      · exact a
      · exact absurd a h
end Ev

namespace Ev
open PySem
theorem above_in (b : Nat) (C : CallF) (hist mm : W) (k n : Nat) (hk : k < n) (x0 : Option W) (h0 : Hq) (B : List Bool) (hB : B.length = n) (ps : List Int) (hp : ∀ p ∈ ps, 0 ≤ p ∧ p < k) :
    ∃ (x : Option W) (B' : List Bool), forGo (fun w env h => evSs b C law_above_b1 (env.set 4 (some w)) h) (ps.map (W.d ∘ PyData.int)) [some hist, some mm, some (.l h0.length), some (.d (.int k)), x0] (h0 ++ [.lst (B.map bo)]) = .ok (.nx [some hist, some mm, some (.l h0.length), some (.d (.int k)), x]) (h0 ++ [.lst (B'.map bo)]) ∧
      B'.length = n ∧ ∀ c : Nat, B'[c]? = (B[c]?).map fun v => v || (B[k]?.getD false && decide ((c : Int) ∈ ps)) := by
  obtain ⟨env', h', e, x, B', rfl, rfl, h2, h3⟩ := for_list (f := fun w env h => evSs b C law_above_b1 (env.set 4 (some w)) h) (emb := W.d ∘ PyData.int) ps (fun i env h => ∃ (x : Option W) (B' : List Bool), env = [some hist, some mm, some (.l h0.length), some (.d (.int k)), x] ∧ h = h0 ++ [.lst (B'.map bo)] ∧ B'.length = n ∧ ∀ c : Nat, B'[c]? = (B[c]?).map fun v => v || (B[k]?.getD false && decide ((c : Int) ∈ ps.take i)))
    (env := [some hist, some mm, some (.l h0.length), some (.d (.int k)), x0]) (h := h0 ++ [.lst (B.map bo)]) ⟨x0, B, rfl, rfl, hB, fun c => by simp⟩ fun j p env h ej i => by
      obtain ⟨x, B', rfl, rfl, h2, h3⟩ := i
      obtain ⟨p0, pk⟩ := hp p (List.mem_of_getElem? ej)
      obtain ⟨q, rfl⟩ := Int.eq_ofNat_of_zero_le p0
      have hq : q < B'.length := by omega
      have hk' : k < B'.length := by omega
      have tk : ps.take (j + 1) = ps.take j ++ [(q : Int)] := by rw [List.take_succ, ej]; rfl
      have ek := h3 k
      have nk : (k : Int) ∉ ps.take j := fun z => by have := (hp _ (List.mem_of_mem_take z)).2; omega
      have ek' : B'[k] = B[k]?.getD false := by
        rw [List.getElem?_eq_getElem hk'] at ek
        have hkB : k < B.length := by omega
        rw [List.getElem?_eq_getElem hkB] at ek ⊢
        simp only [Option.map_some, Option.some.injEq, nk, decide_false, Bool.and_false, Bool.or_false] at ek
        simpa using ek
      refine ⟨_, _, ?_, some (.d (.int q)), B'.set q (B'[q] || B'[k]), rfl, rfl, by simp [h2], fun c => ?_⟩
      · have q1 : (B'.map bo)[q]? = some (.bool B'[q]) := by simp [hq]
        have q2 : (B'.map bo)[k]? = some (.bool B'[k]) := by simp [hk']
        have ix : L2.ixN (B'.map bo).length (q : Int) = some q := by
          unfold L2.ixN
          rw [List.length_map, if_pos (by omega), if_pos (by omega)]
          simp
        cases hv : B'[q] <;> simp [law_above_b1, Function.comp, idx_o last_at, atZ_nat, q1, q2, hv, set_o last_at ix]
      · by_cases hc : c = q
        · subst hc
          rw [List.getElem?_set_self hq]
          have := h3 c
          rw [List.getElem?_eq_getElem hq] at this
          cases hBc : B[c]? with
          | none => rw [hBc] at this; cases this
          | some v =>
            rw [hBc] at this
            simp only [Option.map_some, Option.some.injEq] at this
            simp only [Option.map_some, this, ek', tk, List.mem_append, List.mem_singleton, or_true, decide_true, Bool.and_true]
            cases v <;> cases B[k]?.getD false <;> simp
        · rw [List.getElem?_set_ne (Ne.symm hc), h3 c, tk]
          have : ((c : Int) ∈ ps.take j ++ [(q : Int)]) ↔ (c : Int) ∈ ps.take j := by
            rw [List.mem_append, List.mem_singleton]
            exact ⟨fun z => z.elim id fun z => absurd (by exact_mod_cast z) hc, .inl⟩
          simp only [this]
  refine ⟨x, B', e, h2, fun c => ?_⟩
  rw [h3 c, List.take_length]

theorem above_ok (n b : Nat) (h0 : Hq) {rows : List (Str × List Int)} (hR : Rows rows) (hr : rows.length ≤ 24) {m : Nat} (hm : m < rows.length) : callN tab (n + 1) b 15 [.d (histD rows), .d (.int m)] h0 = .ok (.d (.list ((List.range rows.length).map fun c => bo (Ab rows m c)))) h0 := by
  rw [call_of (fd := f_law_above) _ _ rfl rfl]
  show finR true h0.length (evSs h0.length (callN tab n) f_law_above.body [some (.d (histD rows)), some (.d (.int m)), none, none, none] h0) = _
  have e1 : evS h0.length (callN tab n) law_above_s0 [some (.d (histD rows)), some (.d (.int m)), none, none, none] h0 = .ok (.nx [some (.d (histD rows)), some (.d (.int m)), some (.l h0.length), none, none]) (h0 ++ [.lst (((List.range rows.length).map fun c => decide (c = m)).map bo)]) := by
    simp [hist_1, rg_nat (n := rows.length) (by omega)]
    rw [rangeUp_nat, lc_map (g := fun c => W.d (bo (decide (c = m))))]
    · simp [Function.comp_def]
    · intro c _
      simp [show ((c : Int) = (m : Int)) ↔ c = m by omega]
  obtain ⟨env', h', e2, x3, x4, B, rfl, rfl, hB, hv⟩ := for_dn (f := fun w env h => evSs h0.length (callN tab n) law_above_b0 (env.set 3 (some w)) h) m (fun j env h => ∃ (x3 x4 : Option W) (B : List Bool), env = [some (.d (histD rows)), some (.d (.int m)), some (.l h0.length), x3, x4] ∧ h = h0 ++ [.lst (B.map bo)] ∧ B.length = rows.length ∧ ∀ c : Nat, c < rows.length → B[c]? = some (decide ((c : Int) ∈ ancN rows m j)))
    (env := [some (.d (histD rows)), some (.d (.int m)), some (.l h0.length), none, none]) (h := h0 ++ [.lst (((List.range rows.length).map fun c => decide (c = m)).map bo)]) ⟨none, none, _, rfl, rfl, by simp, fun c hc => by
      simp [hc, ancN, show ((c : Int) = (m : Int)) ↔ c = m by omega]⟩ fun j env h hj i => by
      obtain ⟨x3, x4, B, rfl, rfl, hB, hv⟩ := i
      have hk : m - j < rows.length := by omega
      obtain ⟨q1, q2, q3⟩ := hist_at (h0 ++ [.lst (B.map bo)]) hk
      obtain ⟨x, B', e, h2, h3⟩ := above_in h0.length (callN tab n) (.d (histD rows)) (.d (.int m)) (m - j) rows.length hk x4 h0 B hB (parI rows (m - j)) (fun p hp => by
        unfold parI at hp
        rw [List.getElem?_eq_getElem hk] at hp
        exact (hR.par _ _ (List.getElem?_eq_getElem hk)).rg p hp)
      refine ⟨_, _, ?_, some (.d (.int ((m - j : Nat) : Int))), x, B', rfl, rfl, h2, fun c hc => ?_⟩
      · simp only [law_above_b0, s_cons, s_for, x_ite, x_idx, x_var, x_lit, List.set_cons_succ, List.set_cons_zero, List.getElem?_cons_succ, List.getElem?_cons_zero, b_ok, q1, q2, q3, it_t, live_d, kpt_n, List.map_map, bind_1, e, s_nil]
      · rw [h3 c, hv c hc, hv _ hk]
        simp only [Option.map_some, Option.getD_some]
        refine congrArg some ?_
        rw [Bool.eq_iff_iff]
        rw [show ancN rows m (j + 1) = anStep rows (ancN rows m j) (m - j) from rfl, decide_eq_true_eq, mem_anStep, Bool.or_eq_true, Bool.and_eq_true, decide_eq_true_eq, decide_eq_true_eq, decide_eq_true_eq]
  have rg : rgOk (-1) m = true := rg_of (by omega) (by omega) (by omega) (by omega)
  have e2' := e2
  simp only [List.map_map] at e2'
  unfold f_law_above
  simp only
  rw [seq_nx e1, seq_nx (s := law_above_s1) (env' := [some (.d (histD rows)), some (.d (.int m)), some (.l h0.length), x3, x4]) (h' := h0 ++ [.lst (B.map bo)]) (by simp [s_for, rg, e2'])]
  have eB : B = (List.range rows.length).map fun c => Ab rows m c := by
    apply List.ext_getElem?
    intro c
    by_cases hc : c < rows.length
    · rw [hv c hc]
      simp [hc, Ab, anc]
    · rw [List.getElem?_eq_none (by omega), List.getElem?_eq_none (by simp; omega)]
  rw [eB]
  simp [evFrz, List.map_map, Function.comp_def]
end Ev

namespace Ev
open PySem
/-! who is above whom -/
theorem ancN_rg {rows : List (Str × List Int)} (hR : Rows rows) (m : Nat) : ∀ j, ∀ x ∈ ancN rows m j, 0 ≤ x ∧ x ≤ m
  | 0, x, hx => by simp only [ancN, List.mem_singleton] at hx; omega
  | j + 1, x, hx => by
    rw [show ancN rows m (j + 1) = anStep rows (ancN rows m j) (m - j) from rfl, mem_anStep] at hx
    rcases hx with hx | ⟨hk, hx⟩
    · exact ancN_rg hR m j x hx
    · unfold parI at hx
      cases e : rows[m - j]? with
      | none => rw [e] at hx; simp at hx
      | some r =>
        rw [e] at hx
        have := (hR.par _ _ e).rg x hx
        omega
theorem ancN_self (rows : List (Str × List Int)) (m : Nat) : ∀ j, (m : Int) ∈ ancN rows m j
  | 0 => by simp [ancN]
  | j + 1 => by
    rw [show ancN rows m (j + 1) = anStep rows (ancN rows m j) (m - j) from rfl, mem_anStep]
    exact .inl (ancN_self rows m j)
theorem Ab_self (rows : List (Str × List Int)) (m : Nat) : Ab rows m m = true := by unfold Ab anc; rw [decide_eq_true_eq]; exact ancN_self rows m _
theorem Ab_le {rows : List (Str × List Int)} (hR : Rows rows) {m c : Nat} (h : Ab rows m c = true) : c ≤ m := by
  unfold Ab anc at h
  rw [decide_eq_true_eq] at h
  have := ancN_rg hR m _ _ h
  omega
theorem ancN_all {rows : List (Str × List Int)} (hH : Hst rows) {m : Nat} (hm : m + 1 = rows.length) : ∀ j, (∀ k : Nat, k ≤ m → m ≤ k + j → (k : Int) ∈ ancN rows m j) ∧ ∀ k : Nat, k ≤ m → m + 1 ≤ k + j → ∀ p ∈ parI rows k, p ∈ ancN rows m j
  | 0 => ⟨fun k h1 h2 => by rw [show k = m by omega]; simp [ancN], fun k h1 h2 => by omega⟩
  | j + 1 => by
    obtain ⟨a, p⟩ := ancN_all hH hm j
    have st : ∀ x : Int, x ∈ ancN rows m (j + 1) ↔ x ∈ ancN rows m j ∨ (((m - j : Nat) : Int) ∈ ancN rows m j ∧ x ∈ parI rows (m - j)) := fun x => by
      rw [show ancN rows m (j + 1) = anStep rows (ancN rows m j) (m - j) from rfl, mem_anStep]
    have P : ∀ k : Nat, k ≤ m → m + 1 ≤ k + (j + 1) → ∀ q ∈ parI rows k, q ∈ ancN rows m (j + 1) := fun k h1 h2 q hq => by
      rw [st]
      by_cases hk : m + 1 ≤ k + j
      · exact .inl (p k h1 hk q hq)
      · have : m - j = k := by omega
        rw [this]
        exact .inr ⟨a k h1 (by omega), hq⟩
    refine ⟨fun k h1 h2 => ?_, P⟩
    by_cases hk : m ≤ k + j
    · exact (st _).mpr (.inl (a k h1 hk))
    · obtain ⟨c, r, hc, e, hp⟩ := hH.last k (by omega)
      have hc2 : c < rows.length := (List.getElem?_eq_some_iff.mp e).1
      exact P c (by omega) (by omega) k (by unfold parI; rw [e]; exact hp)
theorem Ab_all {rows : List (Str × List Int)} (hH : Hst rows) {m : Nat} (hm : m + 1 = rows.length) {k : Nat} (hk : k ≤ m) : Ab rows m k = true := by
  unfold Ab anc
  rw [decide_eq_true_eq]
  exact (ancN_all hH hm (m + 1)).1 k hk (by omega)
/-! classes of no skips and of all -/
end Ev

namespace Ev
open PySem
def skD (sk : List Nat) : PyData := .tuple (sk.map ni)
theorem anc_in (h : Hq) {rows : List (Str × List Int)} (m c : Nat) : cmpW .In (.d (.int c)) (.d (.tuple ((sortI (anc rows m)).map .int))) h = .ok (.d (.bool (Ab rows m c))) h := by
  simp [Ab, mem_sortI]
end Ev

namespace Ev
open PySem
/-! who is above: reached by parents -/
inductive Rch (rows : List (Str × List Int)) : Nat → Nat → Prop
  | self (m : Nat) : Rch rows m m
  | par {v p c : Nat} : (p : Int) ∈ parI rows v → Rch rows p c → Rch rows v c
theorem parI_rg {rows : List (Str × List Int)} (hR : Rows rows) {k : Nat} {x : Int} (h : x ∈ parI rows k) : 0 ≤ x ∧ x < k := by
  unfold parI at h
  cases e : rows[k]? with
  | none => rw [e] at h; cases h
  | some r => rw [e] at h; exact (hR.par k r e).rg x h
theorem ancN_mono {rows : List (Str × List Int)} (m j : Nat) {x : Int} (h : x ∈ ancN rows m j) : x ∈ ancN rows m (j + 1) := mem_anStep.mpr (.inl h)
theorem ancN_new {rows : List (Str × List Int)} (hR : Rows rows) {m j : Nat} {x : Int} (h : x ∈ ancN rows m (j + 1)) (hx : ((m - j : Nat) : Int) ≤ x) : x ∈ ancN rows m j := by
  rcases mem_anStep.mp h with h | ⟨_, h⟩
  · exact h
  · have := parI_rg hR h
    omega
theorem ancN_closed {rows : List (Str × List Int)} (hR : Rows rows) (m : Nat) : ∀ j, j ≤ m + 1 → ∀ k : Nat, k ≤ m → m < k + j → (k : Int) ∈ ancN rows m j → ∀ p ∈ parI rows k, p ∈ ancN rows m j
  | 0, _, k, hk, hkj, _ => by omega
  | j + 1, hj, k, hk, hkj, h => by
    intro p hp
    have h' := ancN_new hR h (by omega)
    by_cases e : k = m - j
    · subst e
      exact mem_anStep.mpr (.inr ⟨h', hp⟩)
    · exact ancN_mono m j (ancN_closed hR m j (by omega) k hk (by omega) h' p hp)
theorem ancN_rch {rows : List (Str × List Int)} (hR : Rows rows) (m : Nat) : ∀ j, ∀ x ∈ ancN rows m j, 0 ≤ x ∧ Rch rows m x.toNat
  | 0, x, h => by
    have : x = m := by simpa [ancN] using h
    subst this
    exact ⟨by omega, by rw [Int.toNat_natCast]; exact .self m⟩
  | j + 1, x, h => by
    rcases mem_anStep.mp h with h | ⟨h1, h2⟩
    · exact ancN_rch hR m j x h
    · have hx := parI_rg hR h2
      obtain ⟨_, r⟩ := ancN_rch hR m j _ h1
      rw [Int.toNat_natCast] at r
      refine ⟨hx.1, ?_⟩
      have g : ∀ {a b : Nat}, Rch rows a b → (x ∈ parI rows b) → Rch rows a x.toNat := by
        intro a b r
        induction r with
        | self m => exact fun hp => .par (by rw [Int.toNat_of_nonneg hx.1]; exact hp) (.self _)
        | par hp _ ih => exact fun h => .par hp (ih h)
      exact g r h2
theorem Ab_rch {rows : List (Str × List Int)} (hR : Rows rows) {m c : Nat} : Ab rows m c = true ↔ Rch rows m c := by
  unfold Ab
  rw [decide_eq_true_eq]
  constructor
  · intro h
    have := (ancN_rch hR m _ _ h).2
    rwa [Int.toNat_natCast] at this
  · intro h
    have g : ∀ {a b : Nat}, Rch rows a b → a ≤ m → (a : Int) ∈ anc rows m → (b : Int) ∈ anc rows m := by
      intro a b r
      induction r with
      | self m => exact fun _ h => h
      | par hp _ ih =>
        intro ha h
        have hx := parI_rg hR hp
        exact ih (by omega) (ancN_closed hR m (m + 1) (Nat.le_refl _) _ ha (by omega) h _ hp)
    exact g h (Nat.le_refl _) (ancN_self rows m _)
/-- the last step of a way up -/
theorem Ab_par {rows : List (Str × List Int)} (hR : Rows rows) {v c : Nat} (h : Ab rows v c = true) : c = v ∨ ∃ p : Nat, (p : Int) ∈ parI rows v ∧ p < v ∧ Ab rows p c = true := by
  cases (Ab_rch hR).mp h with
  | self => exact .inl rfl
  | par hp r =>
    have := parI_rg hR hp
    exact .inr ⟨_, hp, by omega, (Ab_rch hR).mpr r⟩
end Ev

namespace Ev
open PySem
/-! even testing, plainly -/
def inP (rows : List (Str × List Int)) (left : List Nat) (m : Nat) : List Nat := left.filter fun c => Ab rows m c
def outP (rows : List (Str × List Int)) (left : List Nat) (m : Nat) : List Nat := left.filter fun c => !Ab rows m c
def szE (rows : List (Str × List Int)) (left : List Nat) (m : Nat) : Nat := min (inP rows left m).length (outP rows left m).length
/-- the first greatest -/
def evnB (sz : Nat → Nat) : Nat → Int × Nat
  | 0 => (-1, 0)
  | m + 1 => if (evnB sz m).1 < sz m then ((sz m : Int), m) else evnB sz m
theorem evnB_spec (sz : Nat → Nat) : ∀ n, 0 < n → (evnB sz n).2 < n ∧ (evnB sz n).1 = sz (evnB sz n).2 ∧ (∀ j, j < n → (sz j : Int) ≤ (evnB sz n).1) ∧ ∀ j, j < (evnB sz n).2 → (sz j : Int) < (evnB sz n).1
  | 0, h => by omega
  | 1, _ => by
    have : evnB sz 1 = ((sz 0 : Int), 0) := by
      show (if ((-1 : Int)) < (sz 0 : Nat) then _ else _) = _
      rw [if_pos (by omega)]
    rw [this]
    exact ⟨by omega, rfl, fun j hj => by
      have : j = 0 := by omega
      subst this; exact Int.le_refl _, fun j hj => by simp at hj⟩
  | n + 2, _ => by
    obtain ⟨h1, h2, h3, h4⟩ := evnB_spec sz (n + 1) (by omega)
    rw [show evnB sz (n + 2) = if (evnB sz (n + 1)).1 < sz (n + 1) then ((sz (n + 1) : Int), n + 1) else evnB sz (n + 1) from rfl]
    by_cases c : (evnB sz (n + 1)).1 < sz (n + 1)
    · rw [if_pos c]
      refine ⟨by omega, rfl, fun j hj => ?_, fun j hj => ?_⟩
      · by_cases e : j = n + 1
        · subst e; exact Int.le_refl _
        · have := h3 j (by omega)
          simp only
          omega
      · have := h3 j hj
        simp only
        omega
    · rw [if_neg c]
      refine ⟨by omega, h2, fun j hj => ?_, h4⟩
      by_cases e : j = n + 1
      · subst e; omega
      · exact h3 j (by omega)
theorem parts_len (rows : List (Str × List Int)) (left : List Nat) (m : Nat) : (inP rows left m).length + (outP rows left m).length = left.length := by
  unfold inP outP
  induction left with
  | nil => rfl
  | cons c left ih =>
    rw [List.filter_cons, List.filter_cons]
    cases Ab rows m c <;> simp <;> omega
/-- with at most two parents some test parts well -/
theorem even_two {rows : List (Str × List Int)} (hR : Rows rows) (h2 : ∀ (k : Nat) (r : Str × List Int), rows[k]? = some r → r.2.length ≤ 2) {left : List Nat} (nd : left.Nodup) (hl : ∃ m, m < rows.length ∧ ∀ c ∈ left, Ab rows m c = true) (hn : 2 ≤ left.length) {s : Nat} (hs : ∀ m, m < rows.length → szE rows left m ≤ s) : left.length ≤ 3 * s + 1 := by
  apply Classical.byContradiction
  intro z
  -- the first make with more than s above
  have ex : ∃ v, v < rows.length ∧ s < (inP rows left v).length := by
    obtain ⟨m, hm, ha⟩ := hl
    refine ⟨m, hm, ?_⟩
    have : inP rows left m = left := List.filter_eq_self.mpr ha
    rw [this]; omega
  have least : ∀ n, (∃ v, v < n ∧ v < rows.length ∧ s < (inP rows left v).length) → ∃ v, v < rows.length ∧ s < (inP rows left v).length ∧ ∀ u, u < v → (inP rows left u).length ≤ s := by
    intro n
    induction n with
    | zero => rintro ⟨v, h, _⟩; omega
    | succ n ih =>
      rintro ⟨v, hv, h3, h4⟩
      by_cases c : ∃ u, u < n ∧ u < rows.length ∧ s < (inP rows left u).length
      · exact ih c
      · have : v = n := by
          apply Classical.byContradiction
          intro q
          exact c ⟨v, by omega, h3, h4⟩
        subst this
        refine ⟨v, h3, h4, fun u hu => ?_⟩
        apply Classical.byContradiction
        intro q
        exact c ⟨u, hu, by omega, by omega⟩
  obtain ⟨v0, hv0, hv1⟩ := ex
  obtain ⟨v, hv, hvs, hmin⟩ := least rows.length ⟨v0, hv0, hv0, hv1⟩
  have sv := hs v hv
  have pl := parts_len rows left v
  unfold szE at sv
  -- what is above v is v, or above one of two parents
  have cover : (inP rows left v).length ≤ 1 + ((parI rows v).map fun p => (inP rows left p.toNat).length).sum := by
    have g : ∀ (ps : List Int) (l : List Nat), l.Nodup → (∀ c ∈ l, c = v ∨ ∃ p ∈ ps, Ab rows p.toNat c = true) → (∀ c ∈ l, c ∈ left) → l.length ≤ 1 + (ps.map fun p => (inP rows left p.toNat).length).sum := by
      intro ps
      induction ps with
      | nil =>
        intro l nd hc _
        have : ∀ c ∈ l, c = v := fun c hcl => (hc c hcl).resolve_right fun ⟨p, hp, _⟩ => by cases hp
        cases l with
        | nil => simp
        | cons a l =>
          cases l with
          | nil => simp
          | cons b l =>
            have h1 := this a (by simp)
            have h2 := this b (by simp)
            rw [h1, h2] at nd
            simp at nd
      | cons p ps ih =>
        intro l nd hc hl
        have i1 := ih (l.filter fun c => !Ab rows p.toNat c) (nd.filter _) (fun c hcl => by
          have hm := List.mem_filter.mp hcl
          rcases hc c hm.1 with q | ⟨p', hp', q⟩
          · exact .inl q
          · rcases List.mem_cons.mp hp' with e | e
            · subst e
              have := hm.2
              rw [q] at this
              cases this
            · exact .inr ⟨p', e, q⟩) (fun c hcl => hl c (List.mem_filter.mp hcl).1)
        have i2 : (l.filter fun c => Ab rows p.toNat c).length ≤ (inP rows left p.toNat).length := by
          have sub : ∀ x ∈ l.filter (fun c => Ab rows p.toNat c), x ∈ inP rows left p.toNat := fun x hx => by
            have hm := List.mem_filter.mp hx
            exact List.mem_filter.mpr ⟨hl x hm.1, hm.2⟩
          have gg : ∀ (a b : List Nat), a.Nodup → (∀ x ∈ a, x ∈ b) → a.length ≤ b.length := by
            intro a
            induction a with
            | nil => intro b _ _; simp
            | cons x a ih =>
              intro b nd hs
              have nd' := List.nodup_cons.mp nd
              have xb := hs x List.mem_cons_self
              have := ih (b.erase x) nd'.2 fun y hy => (List.mem_erase_of_ne (fun (e : y = x) => nd'.1 (e ▸ hy))).mpr (hs y (List.mem_cons_of_mem _ hy))
              have le := List.length_erase_of_mem xb
              have pos := List.length_pos_of_mem xb
              simp only [List.length_cons]
              omega
          exact gg _ _ (nd.filter _) sub
        have sp : (l.filter fun c => Ab rows p.toNat c).length + (l.filter fun c => !Ab rows p.toNat c).length = l.length := parts_len rows l p.toNat
        rw [List.map_cons, List.sum_cons]
        omega
    refine g _ _ (nd.filter _) (fun c hc => ?_) fun c hc => (List.mem_filter.mp hc).1
    rcases Ab_par hR (List.mem_filter.mp hc).2 with q | ⟨p, hp, _, q⟩
    · exact .inl q
    · exact .inr ⟨p, hp, by rw [Int.toNat_natCast]; exact q⟩
  have pb : ∀ p ∈ parI rows v, (inP rows left p.toNat).length ≤ s := fun p hp => hmin _ (by have := parI_rg hR hp; omega)
  have pl2 : (parI rows v).length ≤ 2 := by
    unfold parI
    cases e : rows[v]? with
    | none => simp
    | some r => exact h2 v r e
  have sb : ((parI rows v).map fun p => (inP rows left p.toNat).length).sum ≤ (parI rows v).length * s := by
    generalize parI rows v = ps at pb
    induction ps with
    | nil => simp
    | cons p ps ih =>
      have := pb p List.mem_cons_self
      have := ih fun q hq => pb q (List.mem_cons_of_mem _ hq)
      rw [List.map_cons, List.sum_cons, List.length_cons, Nat.succ_mul]
      omega
  have sb2 := Nat.mul_le_mul_right s pl2
  omega
/-- how many tests are enough -/
def bE (l : List Int) : Int := (maxI l).getD 0
def bndE : Nat → List Int
  | 0 => []
  | 1 => [0]
  | n + 2 => bndE (n + 1) ++ [1 + bE ((bndE (n + 1)).take (n + 2 - (2 * (n + 2) + 3) / 6))]
theorem bndE_len : ∀ n, (bndE n).length = n
  | 0 => rfl
  | 1 => rfl
  | n + 2 => by
    rw [show bndE (n + 2) = bndE (n + 1) ++ [1 + bE ((bndE (n + 1)).take (n + 2 - (2 * (n + 2) + 3) / 6))] from rfl, List.length_append, bndE_len (n + 1)]
    rfl
theorem maxI_bE : ∀ {l : List Int}, l ≠ [] → maxI l = some (bE l)
  | [], h => absurd rfl h
  | x :: l, _ => by
    unfold bE
    have : ∃ m, maxI (x :: l) = some m := by
      show ∃ m, (match maxI l with | none => some x | some m => some (if m < x then x else m)) = some m
      cases maxI l with
      | none => exact ⟨_, rfl⟩
      | some k => exact ⟨_, rfl⟩
    obtain ⟨m, e⟩ := this
    rw [e]; rfl
end Ev

namespace Ev
open PySem
/-! even testing: the walks -/
section
variable {rows : List (Str × List Int)}
theorem sk_items (l : List Nat) (h : Hq) : itemsOf h (.d (skD l)) = some (l.map (W.d ∘ ni)) := by unfold skD; rw [it_t, List.map_map]
theorem sk_len (l : List Nat) (h : Hq) : evB .len [.d (skD l)] h = .ok (.d (.int l.length)) h := by simp [skD]
theorem tup_sk (l : List Nat) (h : Hq) : evB .tuple [.d (.list (l.map ni))] h = .ok (.d (skD l)) h := by simp [skD]
theorem anc_nin (h : Hq) (m c : Nat) : cmpW .NotIn (.d (.int c)) (.d (.tuple ((sortI (anc rows m)).map .int))) h = .ok (.d (.bool (!Ab rows m c))) h := by
  have e := anc_in h (rows := rows) m c
  rw [cmp_d, in_t dpt_i] at e
  have e' := congrArg (fun r => match r with | R.ok (.d (.bool b)) _ => b | _ => false) e
  simp only [liftO_s] at e'
  rw [cmp_d, nin_t dpt_i, e']
  rfl
theorem parts_by_ok (n b : Nat) (h : Hq) (hR : Rows rows) (hr : rows.length ≤ 24) (left : List Nat) {m : Nat} (hm : m < rows.length) : callN tab (n + 2) b 1 [.d (histD rows), .d (skD left), .d (.int m)] h = .ok (.d (.tuple [skD (inP rows left m), skD (outP rows left m)])) h := by
  rw [call_of (fd := f_parts_by) _ _ rfl rfl]
  have an := ancestors_ok n b h hR hr hm
  have c1 : ∀ c : Nat, cmpW .In (.d (.int c)) (.d (.tuple ((sortI (anc rows m)).map .int))) h = .ok (.d (.bool (Ab rows m c))) h := fun c => anc_in h m c
  have c2 : ∀ c : Nat, cmpW .NotIn (.d (.int c)) (.d (.tuple ((sortI (anc rows m)).map .int))) h = .ok (.d (.bool (!Ab rows m c))) h := fun c => anc_nin h m c
  show finR false h.length (evSs b (callN tab (n + 1)) f_parts_by.body [some (.d (histD rows)), some (.d (skD left)), some (.d (.int m)), none, none] h) = _
  have a1 : evS b (callN tab (n + 1)) parts_by_s1 [some (.d (histD rows)), some (.d (skD left)), some (.d (.int m)), some (.d (.tuple ((sortI (anc rows m)).map .int))), none] h = .ok (.rt (.d (.tuple [skD (inP rows left m), skD (outP rows left m)]))) h := by
    simp only [s_ret, x_tup, x_cons, x_nil, x_blt, x_lc, x_ite, x_var, List.getElem?_cons_succ, List.getElem?_cons_zero, b_ok, sk_items, live_d, kpt_n, x_some]
    rw [lc_filter (emb := W.d ∘ ni) (p := fun c => Ab rows m c) (g := fun c => W.d (ni c))]
    · simp only [noEx_ok, b_ok, lcEnd_m, tup_sk]
      rw [lc_filter (emb := W.d ∘ ni) (p := fun c => !Ab rows m c) (g := fun c => W.d (ni c))]
      · simp only [noEx_ok, b_ok, lcEnd_m, tup_sk, allD_c, allD_0, Option.map_some]
        rfl
      · intro c _
        simp only [Function.comp, ni, bind_1, x_cmp, x_var, List.set_cons_succ, List.set_cons_zero, List.getElem?_cons_succ, List.getElem?_cons_zero, b_ok, c2, boolO_b]
        cases Ab rows m c <;> rfl
    · intro c _
      simp only [Function.comp, ni, bind_1, x_cmp, x_var, List.set_cons_succ, List.set_cons_zero, List.getElem?_cons_succ, List.getElem?_cons_zero, b_ok, c1, boolO_b]
      cases Ab rows m c <;> rfl
  unfold f_parts_by
  simp only
  rw [seq_nx (s := parts_by_s0) (env' := [some (.d (histD rows)), some (.d (skD left)), some (.d (.int m)), some (.d (.tuple ((sortI (anc rows m)).map .int))), none]) (h' := h) (by
    simp only [s_asg, x_call, x_cons, x_nil, x_var, List.getElem?_cons_succ, List.getElem?_cons_zero, b_ok, an, bind_1, List.set_cons_succ, List.set_cons_zero]), seq_rt a1]
  rfl
theorem law_parts_ok (n b : Nat) (h : Hq) (hR : Rows rows) (hr : rows.length ≤ 24) {left : List Nat} (hl : ∀ c ∈ left, c < rows.length) {m : Nat} (hm : m < rows.length) : callN tab (n + 2) b 17 [.d (histD rows), .d (skD left), .d (.int m)] h = .ok (.d (.list [skD (inP rows left m), skD (outP rows left m)])) h := by
  rw [call_of (fd := f_law_parts) _ _ rfl rfl]
  have ab := above_ok n b h hR hr hm
  obtain ⟨A, hA⟩ : ∃ A, PyData.list ((List.range rows.length).map fun c => bo (Ab rows m c)) = A := ⟨_, rfl⟩
  have ix : ∀ c, c < rows.length → evIdx h (.d A) (.d (.int (c : Nat))) = .ok (.d (.bool (Ab rows m c))) h := fun c hc => by rw [← hA]; simp [atZ_nat, hc]
  rw [hA] at ab
  show finR false h.length (evSs b (callN tab (n + 1)) f_law_parts.body [some (.d (histD rows)), some (.d (skD left)), some (.d (.int m)), none, none] h) = _
  have a1 : evS b (callN tab (n + 1)) law_parts_s1 [some (.d (histD rows)), some (.d (skD left)), some (.d (.int m)), some (.d A), none] h = .ok (.rt (.d (.list [skD (inP rows left m), skD (outP rows left m)]))) h := by
    simp only [s_ret, x_lst, x_cons, x_nil, x_blt, x_lc, x_ite, x_var, List.getElem?_cons_succ, List.getElem?_cons_zero, b_ok, sk_items, live_d, kpt_n, x_some]
    rw [lc_filter (emb := W.d ∘ ni) (p := fun c => Ab rows m c) (g := fun c => W.d (ni c))]
    · simp only [noEx_ok, b_ok, lcEnd_m, tup_sk]
      rw [lc_filter (emb := W.d ∘ ni) (p := fun c => !Ab rows m c) (g := fun c => W.d (ni c))]
      · simp only [noEx_ok, b_ok, lcEnd_m, tup_sk, allD_c, allD_0, Option.map_some]
        rfl
      · intro c hc
        simp only [Function.comp, ni, bind_1, x_nt, x_idx, x_var, List.set_cons_succ, List.set_cons_zero, List.getElem?_cons_succ, List.getElem?_cons_zero, b_ok, ix c (hl c hc), boolO_b]
        cases Ab rows m c <;> rfl
    · intro c hc
      simp only [Function.comp, ni, bind_1, x_idx, x_var, List.set_cons_succ, List.set_cons_zero, List.getElem?_cons_succ, List.getElem?_cons_zero, b_ok, ix c (hl c hc), boolO_b]
      cases Ab rows m c <;> rfl
  unfold f_law_parts
  simp only
  rw [seq_nx (s := law_parts_s0) (env' := [some (.d (histD rows)), some (.d (skD left)), some (.d (.int m)), some (.d A), none]) (h' := h) (by
    simp only [s_asg, x_call, x_cons, x_nil, x_var, List.getElem?_cons_succ, List.getElem?_cons_zero, b_ok, ab, bind_1, List.set_cons_succ, List.set_cons_zero]), seq_rt a1]
  rfl
end
end Ev

namespace Ev
open PySem
theorem maxI_of {m : Int} : ∀ {l : List Int}, m ∈ l → (∀ x ∈ l, x ≤ m) → maxI l = some m
  | [], h, _ => by cases h
  | [x], h, _ => by
    have : m = x := by simpa using h
    subst this
    rfl
  | x :: y :: l, h, hl => by
    have hx := hl x List.mem_cons_self
    show (match maxI (y :: l) with | none => some x | some k => some (if k < x then x else k)) = _
    by_cases hm : m ∈ y :: l
    · rw [maxI_of hm fun z hz => hl z (List.mem_cons_of_mem _ hz)]
      simp only
      rw [if_neg (by omega)]
    · have e : m = x := by
        rcases List.mem_cons.mp h with e | e
        · exact e
        · exact absurd e hm
      subst e
      have ex : ∀ (l : List Int), l ≠ [] → ∃ k, maxI l = some k ∧ k ∈ l := by
        intro l
        induction l with
        | nil => intro z; exact absurd rfl z
        | cons a l ih =>
          intro _
          cases l with
          | nil => exact ⟨a, rfl, by simp⟩
          | cons c l =>
            obtain ⟨k, e, hk⟩ := ih (by simp)
            refine ⟨if k < a then a else k, ?_, ?_⟩
            · show (match maxI (c :: l) with | none => some a | some m => some (if m < a then a else m)) = _
              rw [e]
            · split
              · exact List.mem_cons_self
              · exact List.mem_cons_of_mem _ hk
      obtain ⟨k, e, hk⟩ := ex (y :: l) (by simp)
      rw [e]
      have := hl k (List.mem_cons_of_mem _ hk)
      have ne : k ≠ m := fun z => hm (z ▸ hk)
      simp only
      rw [if_pos (by omega)]
section
variable {rows : List (Str × List Int)}
theorem even_test_ok (n b : Nat) (h0 : Hq) (hR : Rows rows) (hr : rows.length ≤ 24) (hn : 0 < rows.length) (left : List Nat) (h2 : 2 ≤ left.length) : callN tab (n + 3) b 2 [.d (histD rows), .d (skD left)] h0 = .ok (.d (.int (evnB (szE rows left) rows.length).2)) h0 := by
  rw [call_of (fd := f_even_test) _ _ rfl rfl]
  obtain ⟨sz, hsz⟩ : ∃ sz, szE rows left = sz := ⟨_, rfl⟩
  obtain ⟨p1, p2, p3, p4⟩ := evnB_spec sz rows.length hn
  rw [hsz]
  show finR true h0.length (evSs h0.length (callN tab (n + 2)) f_even_test.body [some (.d (histD rows)), some (.d (skD left)), none, none, none, none] h0) = _
  obtain ⟨env', h', e, x3, x4, x5, rfl, rfl⟩ := for_up (f := fun w env g => evSs h0.length (callN tab (n + 2)) even_test_b1 (env.set 3 (some w)) g) rows.length (fun j env h => ∃ x3 x4 x5 : Option W, env = [some (.d (histD rows)), some (.d (skD left)), some (.l h0.length), x3, x4, x5] ∧ h = h0 ++ [.lst ((List.range j).map fun m => ni (sz m))])
    (env := [some (.d (histD rows)), some (.d (skD left)), some (.l h0.length), none, none, none]) (h := h0 ++ [.lst []]) ⟨none, none, none, rfl, rfl⟩ fun m env h hm i => by
      obtain ⟨x3, x4, x5, rfl, rfl⟩ := i
      obtain ⟨H, hH⟩ : ∃ H, h0 ++ [Ob.lst ((List.range m).map fun m => ni (sz m))] = H := ⟨_, rfl⟩
      have pb := parts_by_ok n h0.length H hR hr left hm
      have l1 : ((List.range m).map fun m => ni (sz m)).length < 1000000 := by simp; omega
      have mn : ∀ h, evB .min [.d (.int (inP rows left m).length), .d (.int (outP rows left m).length)] h = .ok (.d (.int (sz m))) h := fun h => by
        have : (if ((outP rows left m).length : Int) < (inP rows left m).length then ((outP rows left m).length : Int) else (inP rows left m).length) = (sz m : Nat) := by
          rw [← hsz]
          unfold szE
          split <;> omega
        simp only [evB, this]
      refine ⟨[some (.d (histD rows)), some (.d (skD left)), some (.l h0.length), some (.d (.int m)), some (.d (skD (inP rows left m))), some (.d (skD (outP rows left m)))], h0 ++ [.lst ((List.range (m + 1)).map fun m => ni (sz m))], ?_, _, _, _, rfl, rfl⟩
      show evSs h0.length (callN tab (n + 2)) even_test_b1 [some (.d (histD rows)), some (.d (skD left)), some (.l h0.length), some (.d (.int m)), x4, x5] _ = _
      unfold even_test_b1
      rw [hH, seq_nx (s := even_test_b1_s0) (env' := [some (.d (histD rows)), some (.d (skD left)), some (.l h0.length), some (.d (.int m)), some (.d (skD (inP rows left m))), some (.d (skD (outP rows left m)))]) (h' := H) (by
        simp only [s_asg, x_call, x_cons, x_nil, x_var, List.getElem?_cons_succ, List.getElem?_cons_zero, b_ok, pb, bind_2, List.set_cons_succ, List.set_cons_zero])]
      subst hH
      simp only [s_cons, s_app, x_var, x_blt, x_cons, x_nil, List.getElem?_cons_succ, List.getElem?_cons_zero, b_ok, recvL_o last_at, if_true, sk_len, mn, app_o last_at l1, last_set, s_nil]
      rw [List.range_succ, List.map_append]
      rfl
  have ln := sk_len left h0
  have c2 : ¬ ((left.length : Nat) : Int) < 2 := by omega
  obtain ⟨H, hH⟩ : ∃ H, h0 ++ [Ob.lst ((List.range rows.length).map fun m => ni (sz m))] = H := ⟨_, rfl⟩
  have Hn : H[h0.length]? = some (.lst (((List.range rows.length).map fun m => (sz m : Int)).map .int)) := by
    rw [← hH, last_at, List.map_map]
    rfl
  have mx : evB .max [.l h0.length] H = .ok (.d (.int (evnB sz rows.length).1)) H := by
    have em : maxI ((List.range rows.length).map fun m => (sz m : Int)) = some (evnB sz rows.length).1 := maxI_of (by
      rw [p2]
      exact List.mem_map.mpr ⟨_, List.mem_range.mpr p1, rfl⟩) fun x hx => by
      obtain ⟨j, hj, rfl⟩ := List.mem_map.mp hx
      exact p3 j (List.mem_range.mp hj)
    simp only [evB, toD, Hn, Option.bind_some, seqOf, maxP_i, em, Option.map_some, liftO_s]
  have fi : ((((List.range rows.length).map fun m => (sz m : Int)).map PyData.int).findIdx? fun y => PyData.eqv y (.int (evnB sz rows.length).1)) = some (evnB sz rows.length).2 := by
    rw [List.findIdx?_eq_some_iff_getElem]
    refine ⟨by simpa using p1, ?_, fun j hj => ?_⟩
    · simp [p2]
    · have := p4 j hj
      simp
      omega
  have ix : evM .index (.l h0.length) [.d (.int (evnB sz rows.length).1)] H = .ok (.d (.int (evnB sz rows.length).2)) H := by
    simp only [evM, toDD_l Hn, dpt_i, if_true, fi]
  have rc : recv .index H (.l h0.length) = true := by simp only [recv, isLst, toDD_l Hn]
  unfold f_even_test
  simp only
  rw [seq_nx (s := even_test_s0) (env' := [some (.d (histD rows)), some (.d (skD left)), none, none, none, none]) (h' := h0) (by simp [ln, c2]),
    seq_nx (s := even_test_s1) (env' := [some (.d (histD rows)), some (.d (skD left)), some (.l h0.length), none, none, none]) (h' := h0 ++ [.lst []]) (by simp),
    seq_nx (s := even_test_s2) (env' := [some (.d (histD rows)), some (.d (skD left)), some (.l h0.length), x3, x4, x5]) (h' := H) (by
      rw [← hH]
      simp [s_for, hist_1, rg_nat (n := rows.length) (by omega), e])]
  simp only [s_cons, s_ret, x_mth, x_var, List.getElem?_cons_succ, List.getElem?_cons_zero, b_ok, rc, if_true, x_cons, x_nil, x_blt, mx, ix, finR_rt, fin_t]
  rw [← hH]
  simp
end
end Ev

namespace Ev
open PySem
inductive Tr where
  | nobody
  | found (c : Int)
  | ask (m : Int) (b w : Tr)
def Tr.d : Tr → PyData
  | .nobody => .tuple [.str "nobody"]
  | .found c => .tuple [.str "found", .int c]
  | .ask m b w => .tuple [.str "ask", .int m, b.d, w.d]
def Tr.dep : Tr → Nat
  | .nobody => 1
  | .found _ => 1
  | .ask _ b w => max b.dep w.dep + 1
def Tr.isAsk : Tr → Bool
  | .ask _ _ _ => true
  | _ => false
end Ev

namespace Ev
open PySem
def dqT : Tr → Nat
  | .ask _ b w => 1 + max (dqT b) (dqT w)
  | _ => 0
end Ev

namespace Ev
open PySem
theorem mxE_2 {i j : Int} {h : Hq} : evB .max [.d (.int i), .d (.int j)] h = .ok (.d (.int (max i j))) h := by
  have : (if j > i then j else i) = max i j := by split <;> omega
  simp only [evB, this]
section
variable {rows : List (Str × List Int)}
def evM2 (rows : List (Str × List Int)) (left : List Nat) : Nat := (evnB (szE rows left) rows.length).2
def TE (rows : List (Str × List Int)) : Nat → List Nat → Tr
  | 0, _ => .nobody
  | _ + 1, [] => .nobody
  | _ + 1, [c] => .found c
  | f + 1, c :: d :: l => .ask (evM2 rows (c :: d :: l)) (TE rows f (inP rows (c :: d :: l) (evM2 rows (c :: d :: l)))) (TE rows f (outP rows (c :: d :: l) (evM2 rows (c :: d :: l))))
theorem TE_ask (f : Nat) {left : List Nat} (h : 2 ≤ left.length) : TE rows (f + 1) left = .ask (evM2 rows left) (TE rows f (inP rows left (evM2 rows left))) (TE rows f (outP rows left (evM2 rows left))) := by
  match left, h with
  | c :: d :: l, _ => rfl
/-- both parts hold somebody -/
theorem parts_pos (hR : Rows rows) {left : List Nat} (nd : left.Nodup) (hl : ∀ c ∈ left, c < rows.length) (h2 : 2 ≤ left.length) : evM2 rows left < rows.length ∧ 1 ≤ (inP rows left (evM2 rows left)).length ∧ 1 ≤ (outP rows left (evM2 rows left)).length := by
  have hn : 0 < rows.length := by
    cases left with
    | nil => simp at h2
    | cons c l => have := hl c List.mem_cons_self; omega
  obtain ⟨p1, p2, p3, _⟩ := evnB_spec (szE rows left) rows.length hn
  have ex : ∃ a b, a ∈ left ∧ b ∈ left ∧ a < b := by
    match left, h2, nd with
    | c :: d :: l, _, nd =>
      have ne : c ≠ d := fun z => by
        rw [z] at nd
        exact (List.nodup_cons.mp nd).1 List.mem_cons_self
      rcases Nat.lt_or_gt_of_ne ne with z | z
      · exact ⟨c, d, by simp, by simp, z⟩
      · exact ⟨d, c, by simp, by simp, z⟩
  obtain ⟨a, c, ha, hc, hac⟩ := ex
  have i1 : a ∈ inP rows left a := List.mem_filter.mpr ⟨ha, Ab_self rows a⟩
  have i2 : c ∈ outP rows left a := List.mem_filter.mpr ⟨hc, by
    cases e : Ab rows a c with
    | false => rfl
    | true => have := Ab_le hR e; omega⟩
  have l1 := List.length_pos_of_mem i1
  have l2 := List.length_pos_of_mem i2
  have := p3 a (hl a ha)
  rw [p2] at this
  have e : szE rows left (evnB (szE rows left) rows.length).2 = min (inP rows left (evM2 rows left)).length (outP rows left (evM2 rows left)).length := rfl
  have e2 : szE rows left a = min (inP rows left a).length (outP rows left a).length := rfl
  refine ⟨p1, ?_, ?_⟩ <;> omega
theorem inP_sub {left : List Nat} {m : Nat} (nd : left.Nodup) (hl : ∀ c ∈ left, c < rows.length) : (inP rows left m).Nodup ∧ (∀ c ∈ inP rows left m, c < rows.length) ∧ (outP rows left m).Nodup ∧ ∀ c ∈ outP rows left m, c < rows.length :=
  ⟨nd.filter _, fun c hc => hl c (List.mem_filter.mp hc).1, nd.filter _, fun c hc => hl c (List.mem_filter.mp hc).1⟩
theorem even_most_ok (hR : Rows rows) (hr : rows.length ≤ 24) : ∀ (f n b : Nat) (h : Hq) (left : List Nat), 1 ≤ left.length → left.length ≤ f → left.Nodup → (∀ c ∈ left, c < rows.length) →
    callN tab (n + f + 4) b 3 [.d (histD rows), .d (skD left)] h = .ok (.d (.int (dqT (TE rows f left)))) h
  | 0, _, _, _, left, h1, h2, _, _ => by omega
  | f + 1, n, b, h, left, h1, h2, nd, hl => by
    rw [show n + (f + 1) + 4 = n + f + 4 + 1 by omega, call_of (fd := f_even_most) _ _ rfl rfl]
    have ln := sk_len left h
    by_cases c : left.length ≤ 1
    · have c' : ((left.length : Nat) : Int) ≤ 1 := by omega
      have e0 : dqT (TE rows (f + 1) left) = 0 := by
        match left, h1, c with
        | [x], _, _ => rfl
      rw [e0]
      simp [f_even_most, even_most_b0, ln, c']
    · have c' : ¬ ((left.length : Nat) : Int) ≤ 1 := by omega
      obtain ⟨m1, m2, m3⟩ := parts_pos hR nd hl (by omega)
      obtain ⟨s1, s2, s3, s4⟩ := inP_sub (m := evM2 rows left) nd hl
      have pl := parts_len rows left (evM2 rows left)
      have et := even_test_ok (n + f + 1) b h hR hr (by omega) left (by omega)
      have pb := parts_by_ok (n + f + 2) b h hR hr left m1
      have e1 := even_most_ok hR hr f n b h _ m2 (by omega) s1 s2
      have e2 := even_most_ok hR hr f n b h _ m3 (by omega) s3 s4
      rw [TE_ask f (by omega)]
      rw [show (evnB (szE rows left) rows.length).2 = evM2 rows left from rfl] at et
      simp only [dqT]
      show finR false h.length (evSs b (callN tab (n + f + 4)) f_even_most.body [some (.d (histD rows)), some (.d (skD left)), none, none] h) = _
      unfold f_even_most
      simp only
      rw [seq_nx (s := even_most_s0) (env' := [some (.d (histD rows)), some (.d (skD left)), none, none]) (h' := h) (by simp [ln, c']),
        seq_nx (s := even_most_s1) (env' := [some (.d (histD rows)), some (.d (skD left)), some (.d (skD (inP rows left (evM2 rows left)))), some (.d (skD (outP rows left (evM2 rows left))))]) (h' := h) (by
          simp only [s_asg, x_call, x_cons, x_nil, x_var, List.getElem?_cons_succ, List.getElem?_cons_zero, b_ok, et, pb, bind_2, List.set_cons_succ, List.set_cons_zero])]
      simp only [s_cons, s_ret, x_bin, x_lit, x_blt, x_call, x_cons, x_nil, x_var, List.getElem?_cons_succ, List.getElem?_cons_zero, b_ok, e1, e2, mxE_2, op2_d, add_i, liftO_s, finR_rt, fin_f]
      rcases Nat.le_total (dqT (TE rows f (inP rows left (evM2 rows left)))) (dqT (TE rows f (outP rows left (evM2 rows left)))) with z | z
      · rw [Nat.max_eq_right z, Int.max_eq_right (by omega)]; rfl
      · rw [Nat.max_eq_left z, Int.max_eq_left (by omega)]; rfl
theorem tree_for_ok (hR : Rows rows) (hr : rows.length ≤ 24) : ∀ (f n b : Nat) (h : Hq) (left : List Nat), 1 ≤ left.length → left.length ≤ f → left.Nodup → (∀ c ∈ left, c < rows.length) →
    callN tab (n + f + 4) b 4 [.d (histD rows), .d (skD left)] h = .ok (.d (TE rows f left).d) h
  | 0, _, _, _, left, h1, h2, _, _ => by omega
  | f + 1, n, b, h, left, h1, h2, nd, hl => by
    rw [show n + (f + 1) + 4 = n + f + 4 + 1 by omega, call_of (fd := f_tree_for) _ _ rfl rfl]
    have ln := sk_len left h
    by_cases c : left.length ≤ 1
    · match left, h1, c with
      | [x], _, _ =>
        have e0 : TE rows (f + 1) [x] = .found x := rfl
        rw [e0]
        simp [f_tree_for, tree_for_b0, skD, Tr.d, ni]
    · have c' : cmpW .Eq (.d (.int (left.length : Nat))) (.d (.int 1)) h = .ok (.d (.bool false)) h := by simp; omega
      obtain ⟨m1, m2, m3⟩ := parts_pos hR nd hl (by omega)
      obtain ⟨s1, s2, s3, s4⟩ := inP_sub (m := evM2 rows left) nd hl
      have pl := parts_len rows left (evM2 rows left)
      have et := even_test_ok (n + f + 1) b h hR hr (by omega) left (by omega)
      have pb := parts_by_ok (n + f + 2) b h hR hr left m1
      have e1 := tree_for_ok hR hr f n b h _ m2 (by omega) s1 s2
      have e2 := tree_for_ok hR hr f n b h _ m3 (by omega) s3 s4
      rw [TE_ask f (by omega)]
      rw [show (evnB (szE rows left) rows.length).2 = evM2 rows left from rfl] at et
      show finR false h.length (evSs b (callN tab (n + f + 4)) f_tree_for.body [some (.d (histD rows)), some (.d (skD left)), none, none, none] h) = _
      unfold f_tree_for
      simp only
      rw [seq_nx (s := tree_for_s0) (env' := [some (.d (histD rows)), some (.d (skD left)), none, none, none]) (h' := h) (by
          simp only [s_ifs, x_cmp, x_blt, x_cons, x_nil, x_var, x_lit, List.getElem?_cons_succ, List.getElem?_cons_zero, b_ok, ln, c', s_nil]),
        seq_nx (s := tree_for_s1) (env' := [some (.d (histD rows)), some (.d (skD left)), some (.d (.int (evM2 rows left))), none, none]) (h' := h) (by simp [et]),
        seq_nx (s := tree_for_s2) (env' := [some (.d (histD rows)), some (.d (skD left)), some (.d (.int (evM2 rows left))), some (.d (skD (inP rows left (evM2 rows left)))), some (.d (skD (outP rows left (evM2 rows left))))]) (h' := h) (by
          simp only [s_asg, x_call, x_cons, x_nil, x_var, List.getElem?_cons_succ, List.getElem?_cons_zero, b_ok, pb, bind_2, List.set_cons_succ, List.set_cons_zero])]
      simp only [s_cons, s_ret, x_tup, x_lit, x_call, x_cons, x_nil, x_var, List.getElem?_cons_succ, List.getElem?_cons_zero, b_ok, e1, e2, allD_c, allD_0, Option.map_some, finR_rt, fin_f]
      rfl
end
end Ev

namespace Ev
open PySem
section
variable {rows : List (Str × List Int)}
def evP (x : Int × Nat) : PyData := .list [.int x.1, .int x.2]
theorem law_even_ok (n b : Nat) (h : Hq) (hR : Rows rows) (hr : rows.length ≤ 24) {left : List Nat} (hl : ∀ c ∈ left, c < rows.length) : callN tab (n + 3) b 18 [.d (histD rows), .d (skD left)] h = .ok (.d (evP (evnB (szE rows left) rows.length))) h := by
  rw [call_of (fd := f_law_even) _ _ rfl rfl]
  obtain ⟨sz, hsz⟩ : ∃ sz, szE rows left = sz := ⟨_, rfl⟩
  rw [hsz]
  show finR false h.length (evSs b (callN tab (n + 2)) f_law_even.body [some (.d (histD rows)), some (.d (skD left)), none, none, none, none] h) = _
  obtain ⟨env', h', e, x3, x4, x5, rfl, rfl⟩ := for_up (f := fun w env g => evSs b (callN tab (n + 2)) law_even_b0 (env.set 3 (some w)) g) rows.length (fun j env h' => ∃ x3 x4 x5 : Option W, env = [some (.d (histD rows)), some (.d (skD left)), some (.d (evP (evnB sz j))), x3, x4, x5] ∧ h = h')
    (env := [some (.d (histD rows)), some (.d (skD left)), some (.d (evP (-1, 0))), none, none, none]) (h := h) ⟨none, none, none, rfl, rfl⟩ fun m env h' hm i => by
      obtain ⟨x3, x4, x5, rfl, rfl⟩ := i
      have lp := law_parts_ok n b h hR hr hl hm
      have mn : ∀ h, evB .min [.d (.list [.int (inP rows left m).length, .int (outP rows left m).length])] h = .ok (.d (.int (sz m))) h := fun h => by
        have em : minI [((inP rows left m).length : Int), ((outP rows left m).length : Int)] = some (sz m : Int) := by
          rw [← hsz]
          simp only [minI]
          unfold szE
          refine congrArg some ?_
          split <;> omega
        have := min_d (h := h) em
        simpa using this
      refine ⟨[some (.d (histD rows)), some (.d (skD left)), some (.d (evP (evnB sz (m + 1)))), some (.d (.int m)), some (.d (.int (sz m))), x5], h, ?_, _, _, _, rfl, rfl⟩
      have le : ∀ (a c : Int) h, lcEnd 0 [W.d (.int a), W.d (.int c)] h = .ok (.d (.list [.int a, .int c])) h := fun a c h => by simp [lcEnd]
      have i0 : ∀ h, evIdx h (.d (evP (evnB sz m))) (.d (.int 0)) = .ok (.d (.int (evnB sz m).1)) h := fun h => by simp [evP]
      have s0 : evS b (callN tab (n + 2)) law_even_b0_s0 [some (.d (histD rows)), some (.d (skD left)), some (.d (evP (evnB sz m))), some (.d (.int m)), x4, x5] h = .ok (.nx [some (.d (histD rows)), some (.d (skD left)), some (.d (evP (evnB sz m))), some (.d (.int m)), some (.d (.int (sz m))), x5]) h := by
        simp only [s_asg, x_blt, x_cons, x_nil, x_lc, x_ite, x_call, x_var, List.getElem?_cons_succ, List.getElem?_cons_zero, b_ok, lp, it_l, live_d, kpt_n, List.map_cons, List.map_nil, lcGo, bind_1, x_none, boolO_n, List.set_cons_succ, List.set_cons_zero, sk_len, noEx_ok, le, mn]
      show evSs b (callN tab (n + 2)) law_even_b0 [some (.d (histD rows)), some (.d (skD left)), some (.d (evP (evnB sz m))), some (.d (.int m)), x4, x5] h = _
      unfold law_even_b0
      rw [seq_nx s0]
      rw [show evnB sz (m + 1) = if (evnB sz m).1 < sz m then ((sz m : Int), m) else evnB sz m from rfl]
      by_cases c : (evnB sz m).1 < sz m
      · have gt : ∀ h, cmpW .Gt (.d (.int (sz m))) (.d (.int (evnB sz m).1)) h = .ok (.d (.bool true)) h := fun h => by
          rw [cmp_d, gt_i, decide_eq_true c]; rfl
        rw [if_pos c]
        simp only [s_cons, s_ifs, x_cmp, x_idx, x_var, x_lit, List.getElem?_cons_succ, List.getElem?_cons_zero, b_ok, i0, gt, law_even_b1, s_asg, x_lst, x_cons, x_nil, allD_c, allD_0, Option.map_some, bind_1, List.set_cons_succ, List.set_cons_zero, s_nil]
        rfl
      · have gt : ∀ h, cmpW .Gt (.d (.int (sz m))) (.d (.int (evnB sz m).1)) h = .ok (.d (.bool false)) h := fun h => by
          rw [cmp_d, gt_i, decide_eq_false c]; rfl
        rw [if_neg c]
        simp only [s_cons, s_ifs, x_cmp, x_idx, x_var, x_lit, List.getElem?_cons_succ, List.getElem?_cons_zero, b_ok, i0, gt, s_nil]
  unfold f_law_even
  simp only
  rw [seq_nx (s := law_even_s0) (env' := [some (.d (histD rows)), some (.d (skD left)), some (.d (evP (-1, 0))), none, none, none]) (h' := h) (by simp [evP]),
    seq_nx (s := law_even_s1) (env' := [some (.d (histD rows)), some (.d (skD left)), some (.d (evP (evnB sz rows.length))), x3, x4, x5]) (h' := h) (by
      simp [s_for, hist_1, rg_nat (n := rows.length) (by omega), e])]
  simp
end
end Ev

namespace Ev
open PySem
section
variable {rows : List (Str × List Int)}
theorem law_treeE_ok (hR : Rows rows) (hr : rows.length ≤ 24) : ∀ (f n b : Nat) (h : Hq) (left : List Nat), 1 ≤ left.length → left.length ≤ f → left.Nodup → (∀ c ∈ left, c < rows.length) →
    callN tab (n + f + 4) b 19 [.d (histD rows), .d (skD left)] h = .ok (.d (TE rows f left).d) h
  | 0, _, _, _, left, h1, h2, _, _ => by omega
  | f + 1, n, b, h, left, h1, h2, nd, hl => by
    rw [show n + (f + 1) + 4 = n + f + 4 + 1 by omega, call_of (fd := f_law_tree) _ _ rfl rfl]
    have ln := sk_len left h
    by_cases c : left.length ≤ 1
    · match left, h1, c with
      | [x], _, _ =>
        have e0 : TE rows (f + 1) [x] = .found x := rfl
        rw [e0]
        simp [f_law_tree, law_tree_b0, skD, Tr.d, ni]
    · have c' : cmpW .Eq (.d (.int (left.length : Nat))) (.d (.int 1)) h = .ok (.d (.bool false)) h := by simp; omega
      obtain ⟨m1, m2, m3⟩ := parts_pos hR nd hl (by omega)
      obtain ⟨s1, s2, s3, s4⟩ := inP_sub (m := evM2 rows left) nd hl
      have pl := parts_len rows left (evM2 rows left)
      have et := law_even_ok (n + f + 1) b h hR hr hl
      have i1 : evIdx h (.d (evP (evnB (szE rows left) rows.length))) (.d (.int 1)) = .ok (.d (.int (evM2 rows left))) h := by simp [evP, evM2]
      have lp := law_parts_ok (n + f + 2) b h hR hr hl m1
      have e1 := law_treeE_ok hR hr f n b h _ m2 (by omega) s1 s2
      have e2 := law_treeE_ok hR hr f n b h _ m3 (by omega) s3 s4
      obtain ⟨B, hB⟩ : ∃ B, PyData.list [skD (inP rows left (evM2 rows left)), skD (outP rows left (evM2 rows left))] = B := ⟨_, rfl⟩
      have b0 : evIdx h (.d B) (.d (.int 0)) = .ok (.d (skD (inP rows left (evM2 rows left)))) h := by rw [← hB]; simp
      have b1 : evIdx h (.d B) (.d (.int 1)) = .ok (.d (skD (outP rows left (evM2 rows left)))) h := by rw [← hB]; simp
      rw [hB] at lp
      rw [TE_ask f (by omega)]
      show finR false h.length (evSs b (callN tab (n + f + 4)) f_law_tree.body [some (.d (histD rows)), some (.d (skD left)), none, none] h) = _
      unfold f_law_tree
      simp only
      rw [seq_nx (s := law_tree_s0) (env' := [some (.d (histD rows)), some (.d (skD left)), none, none]) (h' := h) (by
          simp only [s_ifs, x_cmp, x_blt, x_cons, x_nil, x_var, x_lit, List.getElem?_cons_succ, List.getElem?_cons_zero, b_ok, ln, c', s_nil]),
        seq_nx (s := law_tree_s1) (env' := [some (.d (histD rows)), some (.d (skD left)), some (.d (.int (evM2 rows left))), none]) (h' := h) (by
          simp only [s_asg, x_idx, x_call, x_cons, x_nil, x_var, x_lit, List.getElem?_cons_succ, List.getElem?_cons_zero, b_ok, et, i1, bind_1, List.set_cons_succ, List.set_cons_zero]),
        seq_nx (s := law_tree_s2) (env' := [some (.d (histD rows)), some (.d (skD left)), some (.d (.int (evM2 rows left))), some (.d B)]) (h' := h) (by
          simp only [s_asg, x_call, x_cons, x_nil, x_var, List.getElem?_cons_succ, List.getElem?_cons_zero, b_ok, lp, bind_1, List.set_cons_succ, List.set_cons_zero])]
      simp only [s_cons, s_ret, x_tup, x_lit, x_call, x_cons, x_nil, x_idx, x_var, List.getElem?_cons_succ, List.getElem?_cons_zero, b_ok, b0, b1, e1, e2, allD_c, allD_0, Option.map_some, finR_rt, fin_f]
      rfl
end
theorem twE_af : ¬ (("ask" : Str) = "found") := by decide +kernel
/-- trees without an end that holds nobody -/
def Tr.full : Tr → Prop
  | .nobody => False
  | .found _ => True
  | .ask _ b w => b.full ∧ w.full
theorem lawdepthE_ok : ∀ (f n b : Nat) (h : Hq) (t : Tr), t.full → t.dep ≤ f → callN tab (n + f) b 20 [.d t.d] h = .ok (.d (.int (dqT t))) h
  | 0, _, _, _, t, _, hd => by cases t <;> simp [Tr.dep] at hd
  | f + 1, n, b, h, t, ht, hd => by
    rw [show n + (f + 1) = n + f + 1 from rfl, call_of (fd := f_law_depth) _ _ rfl rfl]
    cases t with
    | nobody => cases ht
    | found c => simp [f_law_depth, law_depth_b0, Tr.d, dqT]
    | ask m bb ww =>
      simp only [Tr.dep] at hd
      have e1 := lawdepthE_ok f n b h bb ht.1 (by omega)
      have e2 := lawdepthE_ok f n b h ww ht.2 (by omega)
      simp [f_law_depth, law_depth_b0, Tr.d, e1, e2, mxE_2, dqT, twE_af]
      omega
end Ev

namespace Ev
open PySem
section
variable {rows : List (Str × List Int)}
theorem TE_full (hR : Rows rows) : ∀ (f : Nat) (left : List Nat), 1 ≤ left.length → left.length ≤ f → left.Nodup → (∀ c ∈ left, c < rows.length) → (TE rows f left).full ∧ (TE rows f left).dep ≤ left.length
  | 0, left, h1, h2, _, _ => by omega
  | f + 1, left, h1, h2, nd, hl => by
    by_cases c : left.length ≤ 1
    · match left, h1, c with
      | [x], _, _ => exact ⟨trivial, by show (1 : Nat) ≤ 1; omega⟩
    · obtain ⟨m1, m2, m3⟩ := parts_pos hR nd hl (by omega)
      obtain ⟨s1, s2, s3, s4⟩ := inP_sub (m := evM2 rows left) nd hl
      have pl := parts_len rows left (evM2 rows left)
      obtain ⟨a1, a2⟩ := TE_full hR f _ m2 (by omega) s1 s2
      obtain ⟨b1, b2⟩ := TE_full hR f _ m3 (by omega) s3 s4
      rw [TE_ask f (by omega)]
      refine ⟨⟨a1, b1⟩, ?_⟩
      simp only [Tr.dep]
      omega
theorem even_tree_ok (n b : Nat) (h : Hq) (hR : Rows rows) (hr : rows.length ≤ 24) (hn : 0 < rows.length) : callN tab (n + rows.length + 5) b 5 [.d (histD rows)] h = .ok (.d (TE rows rows.length (List.range rows.length)).d) h := by
  rw [call_of (fd := f_even_tree) _ _ rfl rfl]
  have e := tree_for_ok hR hr rows.length n b h (List.range rows.length) (by simp; omega) (by simp) List.nodup_range fun c hc => List.mem_range.mp hc
  have e' : callN tab (n + rows.length + 4) b 4 [.d (histD rows), .d (.tuple ((List.range rows.length).map fun i : Nat => .int i))] h = _ := e
  simp [f_even_tree, hist_1, rg_nat (n := rows.length) (by omega), e']
theorem has_two_ok (n b : Nat) (h : Hq) : callN tab (n + 1) b 6 [.d (histD rows)] h = .ok (.d (.bool (rows.all fun r => decide (r.2.length ≤ 2)))) h := by
  rw [call_of (fd := f_has_two) _ _ rfl rfl]
  simp [f_has_two, hist_1]
  rw [lc_map (emb := W.d ∘ rowD) (g := fun r => W.d (bo (decide (r.2.length ≤ 2)))) rows]
  · have al : evB .all [.d (.list (rows.map fun r => bo (decide (r.2.length ≤ 2))))] h = .ok (.d (.bool (rows.all fun r => decide (r.2.length ≤ 2)))) h := by
      have := all_d (l := rows.map fun r => decide (r.2.length ≤ 2)) (h := h)
      rw [List.map_map, List.all_map] at this
      exact this
    simp [al]
  · intro r _
    have c : decide ((r.2.length : Int) ≤ 2) = decide (r.2.length ≤ 2) := by rw [decide_eq_decide]; omega
    simp [rowD]
    omega
end
end Ev

namespace Ev
open PySem
theorem fdiv_nat (a b : Nat) : (a : Int).fdiv b = ((a / b : Nat) : Int) := by
  rw [Int.fdiv_eq_ediv_of_nonneg _ (by omega)]
  exact_mod_cast rfl
theorem rest_ok (j : Nat) : ((2 : Int) + (j : Nat)) - (2 * ((2 : Int) + (j : Nat)) + 3).fdiv 6 = ((j + 2 - (2 * (j + 2) + 3) / 6 : Nat) : Int) := by
  rw [show (2 * ((2 : Int) + (j : Nat)) + 3) = ((2 * (j + 2) + 3 : Nat) : Int) by omega, show (6 : Int) = ((6 : Nat) : Int) from rfl, fdiv_nat]
  omega
theorem law_bound_ok (n b : Nat) (h0 : Hq) {N : Nat} (hN : N ≤ 1000) : callN tab (n + 1) b 21 [.d (.int ((N + 1 : Nat) : Int))] h0 = .ok (.d (.int ((bndE (N + 1))[N]?.getD 0))) h0 := by
  rw [call_of (fd := f_law_bound) _ _ rfl rfl]
  show finR true h0.length (evSs h0.length (callN tab n) f_law_bound.body [some (.d (.int ((N + 1 : Nat) : Int))), none, none] h0) = _
  obtain ⟨env', h', e, x2, rfl, rfl⟩ := for_list (f := fun w env g => evSs h0.length (callN tab n) law_bound_b0 (env.set 2 (some w)) g) (emb := fun i : Nat => W.d (.int (2 + (i : Int)))) (List.range N) (fun j env h => ∃ x2 : Option W, env = [some (.d (.int ((N + 1 : Nat) : Int))), some (.l h0.length), x2] ∧ h = h0 ++ [.lst ((bndE (j + 1)).map .int)])
    (env := [some (.d (.int ((N + 1 : Nat) : Int))), some (.l h0.length), none]) (h := h0 ++ [.lst [.int 0]]) ⟨none, rfl, rfl⟩ fun j x env h ej i => by
      obtain ⟨x2, rfl, rfl⟩ := i
      obtain ⟨hj, ej⟩ := List.getElem?_eq_some_iff.mp ej
      rw [List.getElem_range] at ej
      subst ej
      rw [List.length_range] at hj
      obtain ⟨L, hL⟩ : ∃ L, bndE (j + 1) = L := ⟨_, rfl⟩
      have ll : L.length = j + 1 := by rw [← hL]; exact bndE_len _
      have tn : L.take (j + 2 - (2 * (j + 2) + 3) / 6) ≠ [] := fun z => by
        have := congrArg List.length z
        rw [List.length_take, ll] at this
        simp at this
        omega
      have l1 : (L.map PyData.int).length < 1000000 := by simp; omega
      have sl : evSlc (h0 ++ [Ob.lst (L.map .int)]) (.l h0.length) none (some ((j + 2 - (2 * (j + 2) + 3) / 6 : Nat) : Int)) = .ok (.d (.list ((L.take (j + 2 - (2 * (j + 2) + 3) / 6)).map .int))) (h0 ++ [Ob.lst (L.map .int)]) := by
        simp only [evSlc, toD, last_at]
        rw [cutL_map, cut_take]
      have nx : bndE (j + 2) = L ++ [1 + bE (L.take (j + 2 - (2 * (j + 2) + 3) / 6))] := by rw [← hL]; rfl
      refine ⟨_, _, ?_, some (.d (.int (2 + (j : Int)))), rfl, rfl⟩
      rw [show j + 1 + 1 = j + 2 from rfl, nx, hL]
      have r := rest_ok j
      have mx : ∀ h, evB .max [.d (.list ((L.map PyData.int).take (j + 2 - (2 * (j + 2) + 3) / 6)))] h = .ok (.d (.int (bE (L.take (j + 2 - (2 * (j + 2) + 3) / 6))))) h := fun h => by
        rw [← List.map_take]
        exact max_d (maxI_bE tn)
      simp [law_bound_b0, r, sl, mx, recvL_o last_at, app_o last_at l1]
  have up : rangeUp 2 (((N + 1 : Nat) : Int) + 1) = (List.range N).map fun i : Nat => W.d (.int (2 + (i : Int))) := by
    unfold rangeUp
    rw [show (((N + 1 : Nat) : Int) + 1 - 2).toNat = N by omega]
  have rg : rgOk 2 (((N + 1 : Nat) : Int) + 1) = true := rg_of (by omega) (by omega) (by omega) (by omega)
  have ix : evIdx (h0 ++ [Ob.lst ((bndE (N + 1)).map .int)]) (.l h0.length) (.d (.int (((N + 1 : Nat) : Int) - 1))) = .ok (.d (.int ((bndE (N + 1))[N]?.getD 0))) (h0 ++ [Ob.lst ((bndE (N + 1)).map .int)]) := by
    have bl := bndE_len (N + 1)
    rw [show (((N + 1 : Nat) : Int) - 1) = (N : Nat) by omega, idx_o last_at, atZ_nat]
    simp [bl]
  unfold f_law_bound
  simp only
  rw [List.length_range] at e
  rw [seq_nx (s := law_bound_s0) (env' := [some (.d (.int ((N + 1 : Nat) : Int))), some (.l h0.length), none]) (h' := h0 ++ [.lst [.int 0]]) (by simp),
    seq_nx (s := law_bound_s1) (env' := [some (.d (.int ((N + 1 : Nat) : Int))), some (.l h0.length), x2]) (h' := h0 ++ [.lst ((bndE (N + 1)).map .int)]) (by
      simp only [s_for, x_rg2, x_lit, x_bin, x_var, List.getElem?_cons_succ, List.getElem?_cons_zero, b_ok, op2_d, add_i, liftO_s, rg, if_true, kpt_n, up, bind_1]
      exact e)]
  simp only [s_cons, s_ret, x_idx, x_bin, x_var, x_lit, List.getElem?_cons_succ, List.getElem?_cons_zero, b_ok, op2_d, sub_i, liftO_s, ix, finR_rt, fin_t]
  simp
end Ev

namespace Ev
open PySem
theorem cut_1 {x : Int} {L : List Int} {k : Nat} : cutL ((x :: L).map PyData.int) (some 1) (some ((k : Int) + 1)) = (L.take k).map .int := by
  unfold cutL
  rw [show ((k : Int) + 1) = ((k + 1 : Nat) : Int) by omega, show (1 : Int) = ((1 : Nat) : Int) from rfl, HT.sIx_nat, HT.sIx_nat]
  simp only [List.length_map, List.length_cons, List.map_cons]
  rw [show min 1 (L.length + 1) = 1 by omega]
  simp only [List.drop_succ_cons, List.drop_zero]
  rw [← List.map_take]
  refine congrArg (List.map PyData.int) ?_
  by_cases h : k ≤ L.length
  · rw [show min (k + 1) (L.length + 1) - 1 = k by omega]
  · rw [show min (k + 1) (L.length + 1) - 1 = L.length by omega, List.take_of_length_le (Nat.le_refl _), List.take_of_length_le (by omega)]
theorem two_bound_ok (n b : Nat) (h0 : Hq) {N : Nat} (hN : N ≤ 1000) : callN tab (n + 1) b 7 [.d (.int ((N + 1 : Nat) : Int))] h0 = .ok (.d (.int ((bndE (N + 1))[N]?.getD 0))) h0 := by
  rw [call_of (fd := f_two_bound) _ _ rfl rfl]
  show finR true h0.length (evSs h0.length (callN tab n) f_two_bound.body [some (.d (.int ((N + 1 : Nat) : Int))), none, none, none] h0) = _
  obtain ⟨env', h', e, x2, x3, rfl, rfl⟩ := for_list (f := fun w env g => evSs h0.length (callN tab n) two_bound_b0 (env.set 2 (some w)) g) (emb := fun i : Nat => W.d (.int (2 + (i : Int)))) (List.range N) (fun j env h => ∃ x2 x3 : Option W, env = [some (.d (.int ((N + 1 : Nat) : Int))), some (.l h0.length), x2, x3] ∧ h = h0 ++ [.lst ((0 :: bndE (j + 1)).map .int)])
    (env := [some (.d (.int ((N + 1 : Nat) : Int))), some (.l h0.length), none, none]) (h := h0 ++ [.lst [.int 0, .int 0]]) ⟨none, none, rfl, rfl⟩ fun j x env h ej i => by
      obtain ⟨x2, x3, rfl, rfl⟩ := i
      obtain ⟨hj, ej⟩ := List.getElem?_eq_some_iff.mp ej
      rw [List.getElem_range] at ej
      subst ej
      rw [List.length_range] at hj
      obtain ⟨L, hL⟩ : ∃ L, bndE (j + 1) = L := ⟨_, rfl⟩
      have ll : L.length = j + 1 := by rw [← hL]; exact bndE_len _
      obtain ⟨r, hr⟩ : ∃ r, j + 2 - (2 * (j + 2) + 3) / 6 = r := ⟨_, rfl⟩
      have tn : L.take r ≠ [] := fun z => by
        have := congrArg List.length z
        rw [List.length_take, ll] at this
        simp at this
        omega
      have nx : bndE (j + 2) = L ++ [1 + bE (L.take r)] := by rw [← hL, ← hr]; rfl
      have rk := rest_ok j
      rw [hr] at rk
      obtain ⟨K, hK⟩ : ∃ K, (0 :: L).map PyData.int = K := ⟨_, rfl⟩
      have kl : K.length = j + 2 := by rw [← hK]; simp [ll]
      have l1 : K.length < 1000000 := by omega
      have sl : evSlc (h0 ++ [Ob.lst K]) (.l h0.length) (some 1) (some ((r : Int) + 1)) = .ok (.d (.list ((L.take r).map .int))) (h0 ++ [Ob.lst K]) := by
        simp only [evSlc, toD, last_at]
        rw [← hK, cut_1]
      have mx : ∀ h, evB .max [.d (.list ((L.map PyData.int).take r))] h = .ok (.d (.int (bE (L.take r)))) h := fun h => by
        rw [← List.map_take]
        exact max_d (maxI_bE tn)
      have fd : evBin .FloorDiv (.int (2 * ((2 : Int) + (j : Nat)) + 3)) (.int 6) = some (.int ((2 * ((2 : Int) + (j : Nat)) + 3).fdiv 6)) := div_k (by decide) (by decide)
      have mu : evBin .Mult (.int 2) (.int ((2 : Int) + (j : Nat))) = some (.int (2 * ((2 : Int) + (j : Nat)))) := mul_l (by decide) (by decide)
      refine ⟨_, _, ?_, some (.d (.int (2 + (j : Int)))), some (.d (.int r)), rfl, rfl⟩
      rw [show j + 1 + 1 = j + 2 from rfl, nx, hL, hK]
      have en : (0 :: (L ++ [1 + bE (L.take r)])).map PyData.int = K ++ [.int (1 + bE (L.take r))] := by rw [← hK]; simp
      rw [en]
      show evSs h0.length (callN tab n) two_bound_b0 [some (.d (.int ((N + 1 : Nat) : Int))), some (.l h0.length), some (.d (.int (2 + (j : Int)))), x3] (h0 ++ [Ob.lst K]) = _
      unfold two_bound_b0
      rw [seq_nx (s := two_bound_b0_s0) (env' := [some (.d (.int ((N + 1 : Nat) : Int))), some (.l h0.length), some (.d (.int (2 + (j : Int)))), some (.d (.int r))]) (h' := h0 ++ [Ob.lst K]) (by
        simp only [s_asg, x_bin, x_var, x_lit, List.getElem?_cons_succ, List.getElem?_cons_zero, b_ok, op2_d, mu, add_i, fd, sub_i, liftO_s, rk, bind_1, List.set_cons_succ, List.set_cons_zero])]
      simp [sl, mx, recvL_o last_at, app_o last_at l1]
  have up : rangeUp 2 (((N + 1 : Nat) : Int) + 1) = (List.range N).map fun i : Nat => W.d (.int (2 + (i : Int))) := by
    unfold rangeUp
    rw [show (((N + 1 : Nat) : Int) + 1 - 2).toNat = N by omega]
  have rg : rgOk 2 (((N + 1 : Nat) : Int) + 1) = true := rg_of (by omega) (by omega) (by omega) (by omega)
  have ix : evIdx (h0 ++ [Ob.lst ((0 :: bndE (N + 1)).map .int)]) (.l h0.length) (.d (.int ((N + 1 : Nat) : Int))) = .ok (.d (.int ((bndE (N + 1))[N]?.getD 0))) (h0 ++ [Ob.lst ((0 :: bndE (N + 1)).map .int)]) := by
    have bl := bndE_len (N + 1)
    rw [idx_o last_at, atZ_nat]
    simp [bl]
  unfold f_two_bound
  simp only
  rw [List.length_range] at e
  rw [seq_nx (s := two_bound_s0) (env' := [some (.d (.int ((N + 1 : Nat) : Int))), some (.l h0.length), none, none]) (h' := h0 ++ [.lst [.int 0, .int 0]]) (by simp),
    seq_nx (s := two_bound_s1) (env' := [some (.d (.int ((N + 1 : Nat) : Int))), some (.l h0.length), x2, x3]) (h' := h0 ++ [.lst ((0 :: bndE (N + 1)).map .int)]) (by
      simp only [s_for, x_rg2, x_lit, x_bin, x_var, List.getElem?_cons_succ, List.getElem?_cons_zero, b_ok, op2_d, add_i, liftO_s, rg, if_true, kpt_n, up, bind_1]
      exact e)]
  simp only [s_cons, s_ret, x_idx, x_var, List.getElem?_cons_succ, List.getElem?_cons_zero, b_ok, ix, finR_rt, fin_t]
  simp
end Ev

namespace Ev
open PySem
/-! even testing needs no more than the bound -/
def bndN (n : Nat) : Int := (bndE n)[n - 1]?.getD 0
theorem bndE_at : ∀ (n k : Nat), k < n → (bndE n)[k]? = some (bndN (k + 1))
  | 0, k, h => by omega
  | 1, k, h => by
    have : k = 0 := by omega
    subst this
    rfl
  | n + 2, k, h => by
    have bl := bndE_len (n + 1)
    rw [show bndE (n + 2) = bndE (n + 1) ++ [1 + bE ((bndE (n + 1)).take (n + 2 - (2 * (n + 2) + 3) / 6))] from rfl]
    by_cases c : k < n + 1
    · rw [List.getElem?_append_left (by omega)]
      exact bndE_at (n + 1) k c
    · have e : k = n + 1 := by omega
      subst e
      have : bndN (n + 1 + 1) = (bndE (n + 2))[n + 1]?.getD 0 := rfl
      rw [this, show bndE (n + 2) = bndE (n + 1) ++ [1 + bE ((bndE (n + 1)).take (n + 2 - (2 * (n + 2) + 3) / 6))] from rfl, List.getElem?_append_right (by omega), bl]
      simp
theorem maxI_le {l : List Int} {m : Int} (e : maxI l = some m) : ∀ x ∈ l, x ≤ m := by
  induction l generalizing m with
  | nil => intro x hx; cases hx
  | cons y l ih =>
    have e : (match maxI l with | none => some y | some k => some (if k < y then y else k)) = some m := e
    cases hm : maxI l with
    | none =>
      rw [hm] at e
      cases l with
      | nil => intro x hx; rw [List.mem_singleton.mp hx]; exact Int.le_of_eq (Option.some.inj e)
      | cons z l => rw [maxI_bE (by simp)] at hm; cases hm
    | some k =>
      rw [hm] at e
      have e := Option.some.inj e
      intro x hx
      rcases List.mem_cons.mp hx with rfl | hx
      · split at e <;> omega
      · have := ih hm x hx
        split at e <;> omega
theorem bndN_step (n p : Nat) (hn : 2 ≤ n) (hp : 1 ≤ p) (hr : p ≤ n - (2 * n + 3) / 6) : 1 + bndN p ≤ bndN n := by
  obtain ⟨k, rfl⟩ : ∃ k, n = k + 2 := ⟨n - 2, by omega⟩
  have bl := bndE_len (k + 1)
  have e : bndN (k + 2) = 1 + bE ((bndE (k + 1)).take (k + 2 - (2 * (k + 2) + 3) / 6)) := by
    have : bndN (k + 2) = (bndE (k + 2))[k + 1]?.getD 0 := rfl
    rw [this, show bndE (k + 2) = bndE (k + 1) ++ [1 + bE ((bndE (k + 1)).take (k + 2 - (2 * (k + 2) + 3) / 6))] from rfl, List.getElem?_append_right (by omega), bl]
    simp
  rw [e]
  obtain ⟨r, hr'⟩ : ∃ r, k + 2 - (2 * (k + 2) + 3) / 6 = r := ⟨_, rfl⟩
  rw [hr'] at hr ⊢
  have rk : r ≤ k + 1 := by omega
  have at_ : ((bndE (k + 1)).take r)[p - 1]? = some (bndN p) := by
    rw [List.getElem?_take_of_lt (by omega), bndE_at (k + 1) (p - 1) (by omega), show p - 1 + 1 = p by omega]
  have mem := List.mem_of_getElem? at_
  have ne : (bndE (k + 1)).take r ≠ [] := fun z => by rw [z] at mem; cases mem
  have := maxI_le (maxI_bE ne) _ mem
  omega
theorem TE_bound {rows : List (Str × List Int)} (hR : Rows rows) (h2 : ∀ (k : Nat) (r : Str × List Int), rows[k]? = some r → r.2.length ≤ 2) : ∀ (f : Nat) (left : List Nat), 1 ≤ left.length → left.length ≤ f → left.Nodup → (∀ c ∈ left, c < rows.length) → (∃ m, m < rows.length ∧ ∀ c ∈ left, Ab rows m c = true) → (dqT (TE rows f left) : Int) ≤ bndN left.length
  | 0, left, h1, h2', _, _, _ => by omega
  | f + 1, left, h1, hf, nd, hl, hm => by
    by_cases c : left.length ≤ 1
    · match left, h1, c with
      | [x], _, _ => exact Int.le_refl 0
    · obtain ⟨m1, m2, m3⟩ := parts_pos hR nd hl (by omega)
      obtain ⟨s1, s2, s3, s4⟩ := inP_sub (m := evM2 rows left) nd hl
      have pl := parts_len rows left (evM2 rows left)
      obtain ⟨mm, hmm, hab⟩ := hm
      obtain ⟨_, p2, p3, _⟩ := evnB_spec (szE rows left) rows.length (by omega)
      have e : szE rows left (evnB (szE rows left) rows.length).2 = min (inP rows left (evM2 rows left)).length (outP rows left (evM2 rows left)).length := rfl
      have b3 := even_two hR h2 nd ⟨mm, hmm, hab⟩ (by omega) (s := szE rows left (evnB (szE rows left) rows.length).2) fun m hm => by
        have := p3 m hm
        omega
      have i1 := TE_bound hR h2 f _ m2 (by omega) s1 s2 ⟨mm, hmm, fun c hc => hab c (List.mem_filter.mp hc).1⟩
      have i2 := TE_bound hR h2 f _ m3 (by omega) s3 s4 ⟨mm, hmm, fun c hc => hab c (List.mem_filter.mp hc).1⟩
      have b1 := bndN_step left.length (inP rows left (evM2 rows left)).length (by omega) m2 (by omega)
      have b2 := bndN_step left.length (outP rows left (evM2 rows left)).length (by omega) m3 (by omega)
      rw [TE_ask f (by omega)]
      simp only [dqT]
      rcases Nat.le_total (dqT (TE rows f (inP rows left (evM2 rows left)))) (dqT (TE rows f (outP rows left (evM2 rows left)))) with z | z
      · rw [Nat.max_eq_right z]; omega
      · rw [Nat.max_eq_left z]; omega
end Ev

namespace Ev
open PySem
theorem law_is_whole_ok (n b : Nat) (h : Hq) {rows : List (Str × List Int)} (hR : Rows rows) (hr : rows.length ≤ 24) (hn : 0 < rows.length) : callN tab (n + 2) b 22 [.d (histD rows)] h = .ok (.d (.bool ((List.range rows.length).all fun c => Ab rows (rows.length - 1) c))) h := by
  rw [call_of (fd := f_law_is_whole) _ _ rfl rfl]
  have ab := above_ok n b h hR hr (m := rows.length - 1) (by omega)
  have e1 : ((rows.length : Int) - 1) = ((rows.length - 1 : Nat) : Int) := by omega
  have lnr : evB .len [.d (.tuple (rows.map rowD))] h = .ok (.d (.int rows.length)) h := by simp
  have a1 : evS b (callN tab (n + 1)) law_is_whole_s0 [some (.d (histD rows)), none] h = .ok (.rt (.d (.bool ((List.range rows.length).all fun c => Ab rows (rows.length - 1) c)))) h := by
    simp only [s_ret, x_cmp, x_blt, x_cons, x_nil, x_lc, x_ite, x_call, x_bin, x_idx, x_var, x_lit, List.getElem?_cons_succ, List.getElem?_cons_zero, b_ok, hist_1, lnr, op2_d, sub_i, liftO_s, e1, ab, it_l, live_d, kpt_n, List.map_map, x_some]
    rw [lc_filter (emb := W.d ∘ fun c => bo (Ab rows (rows.length - 1) c)) (p := fun c => !Ab rows (rows.length - 1) c) (g := fun c => W.d (bo (Ab rows (rows.length - 1) c)))]
    · obtain ⟨L, hL⟩ : ∃ L, (List.range rows.length).filter (fun c => !Ab rows (rows.length - 1) c) = L := ⟨_, rfl⟩
      have fe : L.isEmpty = (List.range rows.length).all fun c => Ab rows (rows.length - 1) c := by
        rw [← hL]
        generalize List.range rows.length = R
        induction R with
        | nil => rfl
        | cons x R ih => cases e : Ab rows (rows.length - 1) x <;> simp [e, ih]
      rw [hL, ← fe]
      have c0 : cmpW .Eq (.d (.int (L.length : Nat))) (.d (.int 0)) h = .ok (.d (.bool L.isEmpty)) h := by
        cases L <;> simp
        omega
      simp only [noEx_ok, b_ok, lcEnd_m]
      have ln : evB .len [.d (.list (L.map fun c => bo (Ab rows (rows.length - 1) c)))] h = .ok (.d (.int L.length)) h := by simp
      simp only [ln, b_ok, c0]
    · intro c _
      simp only [Function.comp, bind_1, x_nt, x_var, List.set_cons_succ, List.set_cons_zero, List.getElem?_cons_succ, List.getElem?_cons_zero, b_ok]
      cases Ab rows (rows.length - 1) c <;> rfl
  show finR false h.length (evSs b (callN tab (n + 1)) f_law_is_whole.body [some (.d (histD rows)), none] h) = _
  unfold f_law_is_whole
  simp only
  rw [seq_rt a1]
  rfl
end Ev

namespace Ev
open PySem
/-! the same with at most two parents -/
def lD (l : List Int) : PyData := .list (l.map .int)
structure PR (N : Nat) (L : List (List Int)) : Prop where
  len : L.length = N
  par : ∀ (k : Nat) l, L[k]? = some l → Par k l
theorem PR.put {N k : Nat} {L : List (List Int)} (p : PR N L) {l : List Int} (q : Par k l) : PR N (L.set k l) := ⟨by rw [List.length_set, p.len], fun j m e => by
  by_cases hj : j = k
  · subst hj
    by_cases hl : j < L.length
    · rw [List.getElem?_set_self hl] at e
      cases e
      exact q
    · rw [List.set_eq_of_length_le (by omega)] at e
      exact p.par j m e
  · rw [List.getElem?_set_ne (Ne.symm hj)] at e
    exact p.par j m e⟩
theorem par_sort {k : Int} {l : List Int} (p : Par k l) : sortI l = l := sortI_asc (p.pw.imp fun h => by omega)
theorem tailPar {k : Nat} {l : List Int} (p : Par ((k + 1 : Nat) : Int) l) (hk : (k : Int) ∉ l) : Par ((k + 1 : Nat) : Int) (sortI ((k : Int) :: l.tail)) := by
  have pt := p.sub (List.tail_sublist l)
  have nd : ((k : Int) :: l.tail).Nodup := List.nodup_cons.mpr ⟨fun h => hk ((List.tail_sublist l).subset h), pt.pw.imp fun h => by omega⟩
  have pm := sortI_perm ((k : Int) :: l.tail)
  refine ⟨fun x hx => ?_, ?_⟩
  · rcases List.mem_cons.mp (pm.mem_iff.mp hx) with e | e
    · subst e; omega
    · exact pt.rg x e
  · have nd' := pm.nodup_iff.mpr nd
    exact (sortI_pw _).imp₂ (fun h1 h2 => by omega) nd'
theorem cut_1e {l : List Int} : cutL (l.map PyData.int) (some 1) none = l.tail.map .int := by
  unfold cutL
  rw [HT.sIx_none, show (1 : Int) = ((1 : Nat) : Int) from rfl, HT.sIx_nat]
  cases l with
  | nil => rfl
  | cons x l =>
    have : List.take l.length (List.map PyData.int l) = List.map PyData.int l := List.take_of_length_le (by simp)
    simp [this]
theorem cut_2 {l : List Int} : cutL (l.map PyData.int) none (some 2) = (l.take 2).map .int := by
  rw [show (2 : Int) = ((2 : Nat) : Int) from rfl, cut_take, List.map_take]
section
variable {rows : List (Str × List Int)}
def twoRows (rows : List (Str × List Int)) (L : List (List Int)) : List (Str × List Int) := (List.range rows.length).map fun k => ((rows[k]?.map (·.1)).getD "", L[k]?.getD [])
theorem twoRows_R {L : List (List Int)} (p : PR rows.length L) : Rows (twoRows rows L) := ⟨fun k r e => by
  unfold twoRows at e
  rw [List.getElem?_map] at e
  obtain ⟨j, ej, rfl⟩ := Option.map_eq_some_iff.mp e
  obtain ⟨hk, rfl⟩ := List.getElem?_eq_some_iff.mp ej
  simp only [List.length_range] at hk
  simp only [List.getElem_range]
  have : L[k]? = some (L[k]'(by rw [p.len]; exact hk)) := List.getElem?_eq_getElem _
  rw [this]
  exact p.par k _ this⟩
theorem law_two_ok (n b : Nat) (h0 : Hq) (hR : Rows rows) (hr : rows.length ≤ 24) : ∃ L, PR rows.length L ∧ callN tab (n + 1) b 16 [.d (histD rows)] h0 = .ok (.d (histD (twoRows rows L))) h0 := by
  rw [call_of (fd := f_law_two) _ _ rfl rfl]
  obtain ⟨C, hC⟩ : ∃ C, callN tab n = C := ⟨_, rfl⟩
  rw [hC]
  have pe : ∀ (L : List (List Int)), PR rows.length L → L.length = rows.length := fun L p => p.len
  -- the first statements
  have a0 : evS h0.length C law_two_s0 [some (.d (histD rows)), none, none, none, none, none] h0 = .ok (.nx [some (.d (histD rows)), some (.d (.tuple (rows.map rowD))), none, none, none, none]) h0 := by simp [hist_1]
  have a1 : evS h0.length C law_two_s1 [some (.d (histD rows)), some (.d (.tuple (rows.map rowD))), none, none, none, none] h0 = .ok (.nx [some (.d (histD rows)), some (.d (.tuple (rows.map rowD))), some (.l h0.length), none, none, none]) (h0 ++ [.lst ((rows.map (·.2)).map lD)]) := by
    simp only [s_asg, x_lc, x_ite, x_var, List.getElem?_cons_succ, List.getElem?_cons_zero, b_ok, it_t, live_d, kpt_n, List.map_map]
    rw [lc_map (emb := W.d ∘ rowD) (g := fun r => W.d (lD r.2)) rows]
    · have le := lcEnd_1 (g := fun r : Str × List Int => lD r.2) (l := rows) (h := h0)
      simp only [noEx_ok, b_ok, le, bind_1, List.set_cons_succ, List.set_cons_zero, Function.comp_def]
    · intro r _
      simp [rowD, lD, evB, seqOf]
  -- the first loop
  have f0 : ∀ j env h, j < rows.length → (∃ x4 L, PR rows.length L ∧ env = [some (.d (histD rows)), some (.d (.tuple (rows.map rowD))), some (.l h0.length), none, x4, none] ∧ h = h0 ++ [Ob.lst (L.map lD)]) →
      ∃ env' h', kpt none h (match bindT [4] false (.d (.int (j : Nat))) env with | some env => evSs h0.length C law_two_b0 env h | none => .bad) = .ok (.nx env') h' ∧ (∃ x4 L, PR rows.length L ∧ env' = [some (.d (histD rows)), some (.d (.tuple (rows.map rowD))), some (.l h0.length), none, x4, none] ∧ h' = h0 ++ [Ob.lst (L.map lD)]) := by
    rintro j env h hj ⟨x4, L, p, rfl, rfl⟩
    have hjL : j < L.length := by rw [p.len]; exact hj
    have pj := p.par j _ (List.getElem?_eq_getElem hjL)
    refine ⟨_, _, ?_, some (.d (.int j)), L.set j (L[j].take 2), p.put (pj.sub (List.take_sublist _ _)), rfl, rfl⟩
    have e1 : (List.map lD L)[j]? = some (.list (L[j].map .int)) := by rw [List.getElem?_map, List.getElem?_eq_getElem hjL]; rfl
    have e2 : (List.map lD L).set j (.list ((L[j].take 2).map .int)) = List.map lD (L.set j (L[j].take 2)) := by rw [List.map_set]; rfl
    simp only [kpt_n, bind_1, law_two_b0, s_cons, s_nil, s_set, x_slc, x_blt, x_cons, x_nil, x_idx, x_var, x_lit, x_none, x_some, List.set_cons_succ, List.set_cons_zero, List.getElem?_cons_succ, List.getElem?_cons_zero, b_ok, idx_o last_at, atZ_nat, e1, liftO_s, sorted_d, par_sort pj, intO_n, intO_i, slc_l, cut_2]
    rw [set_o last_at (k := j) (ixN_nat (by rw [List.length_map]; exact hjL)), e2]
    simp only [b_ok, last_set]
  obtain ⟨env1, h1, e1, x4, L1, p1, rfl, rfl⟩ := for_up (f := fun w env g => kpt none g (match bindT [4] false w env with | some env => evSs h0.length C law_two_b0 env g | none => .bad)) rows.length (fun _ env h => ∃ x4 L, PR rows.length L ∧ env = [some (.d (histD rows)), some (.d (.tuple (rows.map rowD))), some (.l h0.length), none, x4, none] ∧ h = h0 ++ [Ob.lst (L.map lD)])
    (env := [some (.d (histD rows)), some (.d (.tuple (rows.map rowD))), some (.l h0.length), none, none, none]) (h := h0 ++ [Ob.lst ((rows.map (·.2)).map lD)])
    ⟨none, rows.map (·.2), ⟨by simp, fun k l e => by
      rw [List.getElem?_map] at e
      obtain ⟨r, er, rfl⟩ := Option.map_eq_some_iff.mp e
      exact hR.par k r er⟩, rfl, rfl⟩ f0
  have a2 : evS h0.length C law_two_s2 [some (.d (histD rows)), some (.d (.tuple (rows.map rowD))), some (.l h0.length), none, none, none] (h0 ++ [.lst ((rows.map (·.2)).map lD)]) = .ok (.nx [some (.d (histD rows)), some (.d (.tuple (rows.map rowD))), some (.l h0.length), none, x4, none]) (h0 ++ [Ob.lst (L1.map lD)]) := by
    simp only [s_for, x_rg1, x_blt, x_cons, x_nil, x_var, List.getElem?_cons_succ, List.getElem?_cons_zero, b_ok, len_o last_at, List.length_map, rg_nat (n := rows.length) (by omega), if_true]
    exact e1
  -- the second loop
  have f1 : ∀ j env h, j < rows.length - 1 → (∃ x4 L, PR rows.length L ∧ env = [some (.d (histD rows)), some (.d (.tuple (rows.map rowD))), some (.l h0.length), none, x4, none] ∧ h = h0 ++ [Ob.lst (L.map lD)]) →
      ∃ env' h', kpt none h (match bindT [4] false (.d (.int (j : Nat))) env with | some env => evSs h0.length C law_two_b1 env h | none => .bad) = .ok (.nx env') h' ∧ (∃ x4 L, PR rows.length L ∧ env' = [some (.d (histD rows)), some (.d (.tuple (rows.map rowD))), some (.l h0.length), none, x4, none] ∧ h' = h0 ++ [Ob.lst (L.map lD)]) := by
    rintro j env h hj ⟨x4, L, p, rfl, rfl⟩
    have hjL : j + 1 < L.length := by rw [p.len]; omega
    obtain ⟨H, hH⟩ : ∃ H, h0 ++ [Ob.lst (L.map lD)] = H := ⟨_, rfl⟩
    have Hn : H[h0.length]? = some (.lst (L.map lD)) := by rw [← hH, last_at]
    obtain ⟨l, hl⟩ : ∃ l, L[j + 1]? = some l := ⟨_, List.getElem?_eq_getElem hjL⟩
    have pj := p.par (j + 1) _ hl
    have eL : (List.map lD L)[j + 1]? = some (.list (l.map .int)) := by rw [List.getElem?_map, hl]; rfl
    obtain ⟨F, hF⟩ : ∃ F, (List.range (rows.length - (j + 1))).filter (fun i => decide ((j : Int) ∈ L[j + 1 + i]?.getD [])) = F := ⟨_, rfl⟩
    have cnd : evE h0.length C (.cmp .Eq (.lc 0 [5] false (.rg2 (.bin .Add (.var 4) (.lit (.int 1))) (.blt .len (.cons (.var 2) .nil))) (.some (.cmp .In (.var 4) (.idx (.var 2) (.var 5)))) (.var 5)) (.lst .nil)) [some (.d (histD rows)), some (.d (.tuple (rows.map rowD))), some (.l h0.length), none, some (.d (.int j)), none] H = .ok (.d (.bool F.isEmpty)) H := by
      have ru : rangeUp ((j : Int) + 1) (rows.length : Nat) = (List.range (rows.length - (j + 1))).map (W.d ∘ fun i => ni (j + 1 + i)) := by
        unfold rangeUp
        rw [show ((rows.length : Int) - ((j : Int) + 1)).toNat = rows.length - (j + 1) by omega]
        apply List.map_congr_left
        intro i _
        simp only [Function.comp]
        rw [show ((j : Int) + 1 + (i : Nat)) = ((j + 1 + i : Nat) : Int) by omega]
      have rgk : rgOk ((j : Int) + 1) (rows.length : Nat) = true := rg_of (by omega) (by omega) (by omega) (by omega)
      simp only [x_cmp, x_lc, x_rg2, x_bin, x_var, x_lit, x_blt, x_cons, x_nil, x_lst, allD_0, List.getElem?_cons_succ, List.getElem?_cons_zero, b_ok, op2_d, add_i, liftO_s, len_o Hn, List.length_map, p.len, rgk, if_true, ru, kpt_n, x_some]
      rw [lc_filter (emb := W.d ∘ fun i => ni (j + 1 + i)) (p := fun i => decide ((j : Int) ∈ L[j + 1 + i]?.getD [])) (g := fun i => W.d (ni (j + 1 + i)))]
      · have le := lcEnd_m (g := fun i => ni (j + 1 + i)) (l := F) (h := H)
        rw [hF]
        simp only [noEx_ok, b_ok, le, cmp_d]
        rw [eq_d (by simp), eqv_l0]
        cases F <;> rfl
      · intro i hi
        have hi := List.mem_range.mp hi
        have hiL : j + 1 + i < L.length := by rw [p.len]; omega
        have e1 : (List.map lD L)[j + 1 + i]? = some (.list (L[j + 1 + i].map .int)) := by rw [List.getElem?_map, List.getElem?_eq_getElem hiL]; rfl
        simp only [Function.comp, bind_1, x_cmp, x_idx, x_var, List.set_cons_succ, List.set_cons_zero, List.getElem?_cons_succ, List.getElem?_cons_zero, b_ok, idx_o Hn, atZ_nat, e1, liftO_s, cmp_d, in_l dpt_i, any_int, List.getElem?_eq_getElem hiL, Option.getD_some, boolO_b]
        cases decide ((j : Int) ∈ L[j + 1 + i]) <;> rfl
    cases hq : F.isEmpty with
    | false =>
      refine ⟨_, _, ?_, some (.d (.int j)), L, p, rfl, rfl⟩
      rw [hH]
      simp only [kpt_n, bind_1, law_two_b1, s_cons, s_nil, s_ifs, List.set_cons_succ, List.set_cons_zero, cnd, b_ok, hq]
    | true =>
      have nin : (j : Int) ∉ l := fun hm => by
        have : (0 : Nat) ∈ F := by
          rw [← hF, List.mem_filter]
          refine ⟨List.mem_range.mpr (by rw [← p.len]; omega), ?_⟩
          rw [Nat.add_zero, hl]
          exact decide_eq_true hm
        rw [List.isEmpty_iff] at hq
        rw [hq] at this
        cases this
      refine ⟨_, _, ?_, some (.d (.int j)), L.set (j + 1) (sortI ((j : Int) :: l.tail)), p.put (tailPar pj nin), rfl, rfl⟩
      have e2 : (List.map lD L).set (j + 1) (.list ((sortI ((j : Int) :: l.tail)).map .int)) = List.map lD (L.set (j + 1) (sortI ((j : Int) :: l.tail))) := by rw [List.map_set]; rfl
      have lt := par_len pj
      have ad : evBin .Add (.list [.int (j : Int)]) (.list (l.tail.map .int)) = some (.list (((j : Int) :: l.tail).map .int)) := by
        rw [add_l (by simp; omega)]
        rfl
      have aj : ((j : Int) + 1) = ((j + 1 : Nat) : Int) := by omega
      rw [hH]
      simp only [kpt_n, bind_1, law_two_b1, s_cons, s_nil, s_ifs, List.set_cons_succ, List.set_cons_zero, cnd, b_ok, hq, law_two_b2, s_set, x_blt, x_cons, x_nil, x_bin, x_lst, x_var, x_lit, x_slc, x_idx, x_some, x_none, List.getElem?_cons_succ, List.getElem?_cons_zero, allD_c, allD_0, Option.map_some, op2_d, add_i, liftO_s, aj, idx_o Hn, atZ_nat, eL, intO_i, intO_n, slc_l, cut_1e, ad, sorted_d]
      rw [set_o Hn (k := j + 1) (ixN_nat (by rw [List.length_map]; exact hjL)), e2]
      simp only [b_ok]
      rw [← hH, last_set]
  obtain ⟨env2, h2, e2, y4, L2, p2, rfl, rfl⟩ := for_up (f := fun w env g => kpt none g (match bindT [4] false w env with | some env => evSs h0.length C law_two_b1 env g | none => .bad)) (rows.length - 1) (fun _ env h => ∃ x4 L, PR rows.length L ∧ env = [some (.d (histD rows)), some (.d (.tuple (rows.map rowD))), some (.l h0.length), none, x4, none] ∧ h = h0 ++ [Ob.lst (L.map lD)])
    (env := [some (.d (histD rows)), some (.d (.tuple (rows.map rowD))), some (.l h0.length), none, x4, none]) (h := h0 ++ [Ob.lst (L1.map lD)]) ⟨x4, L1, p1, rfl, rfl⟩ f1
  have a3 : evS h0.length C law_two_s3 [some (.d (histD rows)), some (.d (.tuple (rows.map rowD))), some (.l h0.length), none, x4, none] (h0 ++ [.lst (L1.map lD)]) = .ok (.nx [some (.d (histD rows)), some (.d (.tuple (rows.map rowD))), some (.l h0.length), none, y4, none]) (h0 ++ [Ob.lst (L2.map lD)]) := by
    have rgk : rgOk 0 ((rows.length : Int) - 1) = true := rg_of (by omega) (by omega) (by omega) (by omega)
    have ru : rangeUp 0 ((rows.length : Int) - 1) = rangeUp 0 ((rows.length - 1 : Nat) : Int) := by
      unfold rangeUp
      rw [show ((rows.length : Int) - 1 - 0).toNat = (((rows.length - 1 : Nat) : Int) - 0).toNat by omega]
    simp only [s_for, x_rg1, x_bin, x_lit, x_blt, x_cons, x_nil, x_var, List.getElem?_cons_succ, List.getElem?_cons_zero, b_ok, len_o last_at, List.length_map, p1.len, op2_d, sub_i, liftO_s, rgk, ru, if_true]
    exact e2
  refine ⟨L2, p2, ?_⟩
  have a4 : evS h0.length C law_two_s4 [some (.d (histD rows)), some (.d (.tuple (rows.map rowD))), some (.l h0.length), none, y4, none] (h0 ++ [.lst (L2.map lD)]) = .ok (.rt (.d (histD (twoRows rows L2)))) (h0 ++ [Ob.lst (L2.map lD)]) := by
    obtain ⟨H, hH⟩ : ∃ H, h0 ++ [Ob.lst (L2.map lD)] = H := ⟨_, rfl⟩
    have Hn : H[h0.length]? = some (.lst (L2.map lD)) := by rw [← hH, last_at]
    rw [hH]
    simp only [s_ret, x_tup, x_cons, x_nil, x_lit, x_blt, x_lc, x_rg1, x_var, List.getElem?_cons_succ, List.getElem?_cons_zero, b_ok, len_t, List.length_map, rg_nat (n := rows.length) (by omega), if_true, rangeUp_nat, kpt_n, x_none]
    rw [lc_map (emb := W.d ∘ ni) (g := fun k => W.d (rowD ((rows[k]?.map (·.1)).getD "", L2[k]?.getD []))) (List.range rows.length)]
    · have le := lcEnd_m (g := fun k => rowD ((rows[k]?.map (·.1)).getD "", L2[k]?.getD [])) (l := List.range rows.length) (h := H)
      simp only [noEx_ok, b_ok, le, tup_l, allD_c, allD_0, Option.map_some]
      unfold twoRows histD
      rw [List.map_map]
      rfl
    · intro k hk
      have hk := List.mem_range.mp hk
      have hkL : k < L2.length := by rw [p2.len]; exact hk
      have e1 : (rows.map rowD)[k]? = some (.tuple [.str rows[k].1, .tuple (rows[k].2.map .int)]) := by rw [List.getElem?_map, List.getElem?_eq_getElem hk]; rfl
      have e2 : (List.map lD L2)[k]? = some (.list (L2[k].map .int)) := by rw [List.getElem?_map, List.getElem?_eq_getElem hkL]; rfl
      simp only [Function.comp, bind_1, boolO_n, x_tup, x_cons, x_nil, x_idx, x_var, x_lit, x_blt, List.set_cons_succ, List.set_cons_zero, List.getElem?_cons_succ, List.getElem?_cons_zero, b_ok, idx_t, idx_o Hn, atZ_nat, e1, e2, liftO_s, atZ_0, tup_l, allD_c, allD_0, Option.map_some, List.getElem?_eq_getElem hk, List.getElem?_eq_getElem hkL, Option.getD_some, rowD]
  show finR true h0.length (evSs h0.length C f_law_two.body [some (.d (histD rows)), none, none, none, none, none] h0) = _
  unfold f_law_two
  simp only
  rw [seq_nx a0, seq_nx a1, seq_nx a2, seq_nx a3, seq_rt a4]
  simp only [finR_rt, fin_t, last_take]
end
end Ev

namespace Ev
open PySem
/-! sizes; a loop with a break; the loop of the law -/
theorem sm_ask {k1 k2 j : Nat} {m : Int} {x y : PyData} (hm : m.natAbs < 10 ^ 40) (h1 : Sm k1 j x) (h2 : Sm k2 j y) : Sm (k1 + k2 + 100) (j + 1) (.tuple [.str "ask", .int m, x, y]) := by
  have s0 : Sm 32 0 (.str "ask") := sm_str (s := "ask") (by decide)
  have s1 := sm_int hm
  have all : ∀ d ∈ ([PyData.str "ask", .int m, x, y] : List PyData), Sm (k1 + k2 + 100) j d := fun d hd => by
    simp only [List.mem_cons, List.not_mem_nil, or_false] at hd
    rcases hd with rfl | rfl | rfl | rfl
    · exact s0.mono (by omega) (by omega)
    · exact s1.mono (by omega) (by omega)
    · exact h1.mono (by omega) (by omega)
    · exact h2.mono (by omega) (by omega)
  have st := sm_tup all
  refine ⟨st.sh, st.dp, ?_⟩
  have e : (PyData.shown (.tuple [.str "ask", .int m, x, y])).length = (("(" : String) : Str).length + (Str.join ", " (PyData.shownAll [.str "ask", .int m, x, y])).length + ((if ((PyData.shownAll [.str "ask", .int m, x, y]).length == 1) = true then ",)" else ")" : String) : Str).length := by
    simp only [PyData.shown, tupleText]
    rw [strLen_append, strLen_append]
  have h3 : ∀ c : Bool, ((if c = true then ",)" else ")" : String) : Str).length ≤ 2 := fun c => by cases c <;> decide +kernel
  have h4 : (("(" : String) : Str).length = 1 := rfl
  have jl := join_len (PyData.shownAll [.str "ask", .int m, x, y])
  have pl : piled (PyData.shownAll [.str "ask", .int m, x, y]) = (PyData.shown (.str "ask")).length + 2 + ((PyData.shown (.int m)).length + 2 + (x.shown.length + 2 + (y.shown.length + 2))) := by
    simp only [PyData.shownAll, piled_cons, piled_nil]
  have := h3 ((PyData.shownAll [.str "ask", .int m, x, y]).length == 1)
  have a0 := s0.len
  have a1 := s1.len
  have a2 := h1.len
  have a3 := h2.len
  omega
section
variable {rows : List (Str × List Int)}
theorem sm_TE (hR : Rows rows) (hr : rows.length ≤ 24) : ∀ (f : Nat) (left : List Nat), 1 ≤ left.length → left.length ≤ f → left.Nodup → (∀ c ∈ left, c < rows.length) → Sm (300 * left.length - 100) (left.length + 1) (TE rows f left).d
  | 0, left, h1, h2, _, _ => by omega
  | f + 1, left, h1, h2, nd, hl => by
    by_cases c : left.length ≤ 1
    · match left, h1, c with
      | [x], _, _ =>
        have hx := hl x List.mem_cons_self
        have s0 : Sm 52 0 (.str "found") := sm_str (s := "found") (by decide)
        have s1 : Sm 41 0 (.int (x : Int)) := sm_int (by
          have : (1000 : Nat) < 10 ^ 40 := by decide
          omega)
        have := sm_tup (ds := [.str "found", .int (x : Int)]) (k := 52) (j := 0) fun d hd => by
          simp only [List.mem_cons, List.not_mem_nil, or_false] at hd
          rcases hd with rfl | rfl
          · exact s0
          · exact s1.mono (by omega) (by omega)
        exact this.mono (by simp) (by simp)
    · obtain ⟨m1, m2, m3⟩ := parts_pos hR nd hl (by omega)
      obtain ⟨s1, s2, s3, s4⟩ := inP_sub (m := evM2 rows left) nd hl
      have pl := parts_len rows left (evM2 rows left)
      have a := sm_TE hR hr f _ m2 (by omega) s1 s2
      have b := sm_TE hR hr f _ m3 (by omega) s3 s4
      have hm : ((evM2 rows left : Nat) : Int).natAbs < 10 ^ 40 := by
        have : (1000 : Nat) < 10 ^ 40 := by decide
        omega
      rw [TE_ask f (by omega)]
      have r := sm_ask hm (a.mono (Nat.le_refl _) (j' := left.length) (by omega)) (b.mono (Nat.le_refl _) (j' := left.length) (by omega))
      exact r.mono (by omega) (Nat.le_refl _)
theorem dqT_dep : ∀ t : Tr, dqT t ≤ t.dep
  | .nobody => by simp [dqT, Tr.dep]
  | .found _ => by simp [dqT, Tr.dep]
  | .ask _ b w => by
    have h1 := dqT_dep b
    have h2 := dqT_dep w
    simp only [dqT, Tr.dep]
    omega
/-- a loop that may break -/
theorem forGo_brk {f : W → Vars → Hq → R Fl} (I : Vars → Hq → Prop) : ∀ (ws : List W) (env : Vars) (h : Hq), I env h → (∀ w env h, w ∈ ws → I env h → ∃ env' h', (f w env h = .ok (.nx env') h' ∨ f w env h = .ok (.bk env') h') ∧ I env' h') → ∃ env' h', forGo f ws env h = .ok (.nx env') h' ∧ I env' h'
  | [], env, h, i, _ => ⟨env, h, rfl, i⟩
  | w :: ws, env, h, i, st => by
    obtain ⟨env1, h1, e1, i1⟩ := st w env h List.mem_cons_self i
    rcases e1 with e1 | e1
    · obtain ⟨env2, h2, e2, i2⟩ := forGo_brk I ws env1 h1 i1 fun w env h hw => st w env h (List.mem_cons_of_mem _ hw)
      exact ⟨env2, h2, by simp only [forGo, e1, b_ok, e2], i2⟩
    · exact ⟨env1, h1, by simp only [forGo, e1, b_ok], i1⟩
theorem bind_2l {i j : Nat} {x y : PyData} {env : Vars} : bindT [i, j] true (.d (.list [x, y])) env = some ((env.set i (some (.d x))).set j (some (.d y))) := by simp [bindT, setAll]
/-- some of the makes, all below one -/
structure Lf (rows : List (Str × List Int)) (left : List Nat) : Prop where
  l1 : 1 ≤ left.length
  l2 : left.length ≤ rows.length
  nd : left.Nodup
  lt : ∀ c ∈ left, c < rows.length
  top : ∃ m, m < rows.length ∧ ∀ c ∈ left, Ab rows m c = true
theorem Lf.sub {left l : List Nat} (p : Lf rows left) (s : l.Sublist left) (h : l ≠ []) : Lf rows l := by
  obtain ⟨m, hm, ha⟩ := p.top
  have := s.length_le
  have := p.l2
  have := List.length_pos_iff.mpr h
  exact ⟨by omega, by omega, p.nd.sublist s, fun c hc => p.lt c (s.subset hc), m, hm, fun c hc => ha c (s.subset hc)⟩
theorem sm_nsk {l : List Nat} (hl : l.length ≤ 24) (h : ∀ x ∈ l, x < 1000) : Sm (43 * 24 + 3) 1 (skD l) := by
  unfold skD
  rw [ni_map]
  refine sm_ints (by simpa using hl) fun x hx => ?_
  obtain ⟨y, hy, rfl⟩ := List.mem_map.mp hx
  have := h y hy
  have : (1000 : Nat) < 10 ^ 40 := by decide
  omega
theorem ne_sk (l : List Nat) (h : Hq) : cmpW .NotEq (.d (skD l)) (.d (.tuple [])) h = .ok (.d (.bool (!l.isEmpty))) h := by
  have e : PyData.eqv (skD l) (.tuple []) = l.isEmpty := by
    have := eqv_tn (l := l) (l' := [])
    unfold skD
    rw [show (PyData.tuple []) = .tuple (([] : List Nat).map ni) from rfl, this]
    cases l <;> rfl
  rw [cmp_d, ne_d (by unfold skD; rw [dpt_tn]; rfl), e]; rfl
/-- the turn's law -/
theorem turn_ok (hR : Rows rows) (hr : rows.length ≤ 14) (hn : 0 < rows.length) {x0 x5 x7 x8 x9 x10 x11 x12 x13 x14 : Option W} {bx : Ob} (hb : IsBox bx) {left : List Nat} (p : Lf rows left) :
    ∃ bx' left' y8 y9 y10, IsBox bx' ∧ Lf rows left' ∧ (evSs 0 (callN tab 39) law_b3 [x0, some (.l 0), some (.d (histD rows)), some (.d (.int rows.length)), some (.d (.bool (rows.all fun r => decide (r.2.length ≤ 2)))), x5, some (.d (skD left)), x7, x8, x9, x10, x11, x12, x13, x14] [bx] = .ok (.nx [x0, some (.l 0), some (.d (histD rows)), some (.d (.int rows.length)), some (.d (.bool (rows.all fun r => decide (r.2.length ≤ 2)))), x5, some (.d (skD left')), x7, y8, y9, y10, x11, x12, x13, x14]) [bx']
      ∨ evSs 0 (callN tab 39) law_b3 [x0, some (.l 0), some (.d (histD rows)), some (.d (.int rows.length)), some (.d (.bool (rows.all fun r => decide (r.2.length ≤ 2)))), x5, some (.d (skD left)), x7, x8, x9, x10, x11, x12, x13, x14] [bx] = .ok (.bk [x0, some (.l 0), some (.d (histD rows)), some (.d (.int rows.length)), some (.d (.bool (rows.all fun r => decide (r.2.length ≤ 2)))), x5, some (.d (skD left')), x7, y8, y9, y10, x11, x12, x13, x14]) [bx']) := by
  obtain ⟨two, htwo⟩ : ∃ two, (rows.all fun r => decide (r.2.length ≤ 2)) = two := ⟨_, rfl⟩
  have hr24 : rows.length ≤ 24 := by omega
  have big : (1000 : Nat) < 10 ^ 40 := by decide
  have i1 := even_most_ok hR hr24 rows.length (35 - rows.length) 0 [bx] left p.l1 p.l2 p.nd p.lt
  have i2 := law_treeE_ok hR hr24 rows.length (35 - rows.length) 0 [bx] left p.l1 p.l2 p.nd p.lt
  obtain ⟨tf, td⟩ := TE_full hR rows.length left p.l1 p.l2 p.nd p.lt
  have l2 := p.l2
  have i3 := lawdepthE_ok rows.length (39 - rows.length) 0 [bx] _ tf (by omega)
  rw [show 35 - rows.length + rows.length + 4 = 39 by omega] at i1 i2
  rw [show 39 - rows.length + rows.length = 39 by omega] at i3
  have dl := dqT_dep (TE rows rows.length left)
  have s0 := same_ok 38 0 [bx] (sm_int (i := ((dqT (TE rows rows.length left) : Nat) : Int)) (by omega))
  obtain ⟨E, hE⟩ : ∃ E : Vars, [x0, some (.l 0), some (.d (histD rows)), some (.d (.int rows.length)), some (.d (.bool two)), x5, some (.d (skD left)), x7, x8, x9, x10, x11, x12, x13, x14] = E := ⟨_, rfl⟩
  rw [htwo, hE]
  have a0 : evS 0 (callN tab 39) law_b3_s0 E [bx] = .ok (.nx E) [bx] := by
    rw [← hE]
    simp only [s_ifs, x_nt, x_call, x_cons, x_nil, x_var, List.getElem?_cons_succ, List.getElem?_cons_zero, b_ok, i1, i2, i3, s0, Bool.not_true, s_nil]
  have ln := sk_len left [bx]
  unfold law_b3
  rw [seq_nx a0]
  by_cases c : left.length < 2
  · have c' : decide (((left.length : Nat) : Int) < 2) = true := decide_eq_true (by omega)
    refine ⟨bx, left, x8, x9, x10, hb, p, .inr ?_⟩
    rw [hE]
    rw [← hE]
    simp only [s_cons, s_ifs, x_cmp, x_blt, x_cons, x_nil, x_var, x_lit, List.getElem?_cons_succ, List.getElem?_cons_zero, b_ok, ln, cmp_d, lt_i, liftO_s, c', law_b5, s_brk]
  · have c' : decide (((left.length : Nat) : Int) < 2) = false := decide_eq_false (by omega)
    have a1 : evS 0 (callN tab 39) law_b3_s1 E [bx] = .ok (.nx E) [bx] := by
      rw [← hE]
      simp only [s_ifs, x_cmp, x_blt, x_cons, x_nil, x_var, x_lit, List.getElem?_cons_succ, List.getElem?_cons_zero, b_ok, ln, cmp_d, lt_i, liftO_s, c', s_nil]
    obtain ⟨v, bx1, v0, v1, hb1, d1⟩ := draw_ok 38 0 [] hb (m := (rows.length : Int)) (by omega)
    obtain ⟨m, rfl⟩ := Int.eq_ofNat_of_zero_le v0
    have hm : m < rows.length := by omega
    have d1' : callN tab 39 0 10 [.l 0, .d (.int (rows.length : Int))] [bx] = .ok (.d (.int (m : Int))) [bx1] := d1
    have pb := parts_by_ok 37 0 [bx1] hR hr24 left hm
    have lp := law_parts_ok 37 0 [bx1] hR hr24 p.lt hm
    have le := law_even_ok 36 0 [bx1] hR hr24 p.lt
    have et := even_test_ok 36 0 [bx1] hR hr24 hn left (by omega)
    obtain ⟨m1, m2, m3⟩ := parts_pos hR p.nd p.lt (by omega)
    have lp2 := law_parts_ok 37 0 [bx1] hR hr24 p.lt m1
    obtain ⟨q1, q2, q3, _⟩ := evnB_spec (szE rows left) rows.length hn
    have e2 : (evnB (szE rows left) rows.length).2 = evM2 rows left := rfl
    rw [e2] at et
    have smp : ∀ m, Sm 3000 2 (.tuple [skD (inP rows left m), skD (outP rows left m)]) := fun m => by
      have h1 := (List.filter_sublist (l := left) (p := fun c => Ab rows m c)).length_le
      have h2 := (List.filter_sublist (l := left) (p := fun c => !Ab rows m c)).length_le
      have s1 : Sm (43 * 24 + 3) 1 (skD (inP rows left m)) := sm_nsk (by unfold inP; omega) fun x hx => by have := p.lt x (List.mem_filter.mp hx).1; omega
      have s2 : Sm (43 * 24 + 3) 1 (skD (outP rows left m)) := sm_nsk (by unfold outP; omega) fun x hx => by have := p.lt x (List.mem_filter.mp hx).1; omega
      refine (sm_tup (ds := [skD (inP rows left m), skD (outP rows left m)]) (k := 43 * 24 + 3) (j := 1) fun d hd => ?_).mono (by simp) (by omega)
      simp only [List.mem_cons, List.not_mem_nil, or_false] at hd
      rcases hd with rfl | rfl
      · exact s1
      · exact s2
    have s1 := same_ok 38 0 [bx1] (smp m)
    have s2 := same_ok 38 0 [bx1] (sm_int (i := ((evM2 rows left : Nat) : Int)) (by omega))
    obtain ⟨B, hB⟩ : ∃ B, (evnB (szE rows left) rows.length).1 = B := ⟨_, rfl⟩
    -- what is picked from
    obtain ⟨F, hF⟩ : ∃ F, [inP rows left m, outP rows left m, inP rows left (evM2 rows left), outP rows left (evM2 rows left)].filter (fun l => !l.isEmpty) = F := ⟨_, rfl⟩
    have Fm : ∀ l ∈ F, l.Sublist left ∧ l ≠ [] := fun l hl => by
      rw [← hF, List.mem_filter] at hl
      obtain ⟨h1, h2⟩ := hl
      refine ⟨?_, fun z => by rw [z] at h2; cases h2⟩
      simp only [List.mem_cons, List.not_mem_nil, or_false] at h1
      rcases h1 with rfl | rfl | rfl | rfl <;> exact List.filter_sublist
    have Fne : F.map skD ≠ [] := fun z => by
      have : inP rows left (evM2 rows left) ∈ F := by
        rw [← hF, List.mem_filter]
        refine ⟨by simp, ?_⟩
        cases h : inP rows left (evM2 rows left) with
        | nil => rw [h] at m2; simp at m2
        | cons _ _ => rfl
      rw [List.map_eq_nil_iff] at z
      rw [z] at this
      cases this
    obtain ⟨x, hx, bx2, hb2, d2⟩ := pick_ok 37 0 [] (F.map skD) hb1 Fne
    obtain ⟨l, hl, rfl⟩ := List.mem_map.mp hx
    obtain ⟨f1, f2⟩ := Fm l hl
    refine ⟨bx2, l, some (.d (.int (m : Int))), some (.d (.int B)), some (.d (.int (evM2 rows left))), hb2, p.sub f1 f2, .inl ?_⟩
    -- the fifth
    have c5 : ∀ G : Vars, G[2]? = some (some (.d (histD rows))) → G[4]? = some (some (.d (.bool two))) → G[6]? = some (some (.d (skD left))) → G[9]? = some (some (.d (.int B))) → G[10]? = some (some (.d (.int (evM2 rows left)))) → evS 0 (callN tab 39) law_b3_s5 G [bx1] = .ok (.nx G) [bx1] := fun G g2 g4 g6 g9 g10 => by
      have ln1 := sk_len left [bx1]
      cases two with
      | false => simp only [s_ifs, x_or, x_one, x_and, x_nt, x_call, x_cons, x_nil, x_var, g2, g4, g6, g10, b_ok, et, s2, Bool.not_true, s_nil]
      | true =>
        have h2 : ∀ (k : Nat) (r : Str × List Int), rows[k]? = some r → r.2.length ≤ 2 := fun k r e => by
          have := List.all_eq_true.mp htwo r (List.mem_of_getElem? e)
          exact of_decide_eq_true this
        have ev := even_two hR h2 p.nd p.top (by omega) (s := szE rows left (evM2 rows left)) fun j hj => by
          have := q3 j hj
          rw [q2] at this
          have e : szE rows left (evnB (szE rows left) rows.length).2 = szE rows left (evM2 rows left) := rfl
          omega
        have hBe : B = (szE rows left (evM2 rows left) : Nat) := by rw [← hB, q2]; rfl
        have fd : ((2 : Int) * (left.length : Nat) + 3).fdiv 6 = (((2 * left.length + 3) / 6 : Nat) : Int) := by
          rw [← fdiv_nat]
          congr 1
        have c0 : decide (B < (((2 * left.length + 3) / 6 : Nat) : Int)) = false := decide_eq_false (by omega)
        have mu := mul_l (i := 2) (j := (left.length : Nat)) (by decide) (by decide)
        have dv := div_k (i := (2 : Int) * (left.length : Nat) + 3) (j := 6) (by decide) (by decide)
        simp only [s_ifs, x_or, x_one, x_and, x_nt, x_call, x_cons, x_nil, x_var, x_cmp, x_bin, x_lit, x_blt, g2, g4, g6, g9, g10, b_ok, et, s2, Bool.not_true, ln1, op2_d, mu, liftO_s, add_i, dv, fd, cmp_d, lt_i, c0, s_nil]
    obtain ⟨E1, hE1⟩ : ∃ E1 : Vars, [x0, some (.l 0), some (.d (histD rows)), some (.d (.int rows.length)), some (.d (.bool two)), x5, some (.d (skD left)), x7, some (.d (.int (m : Int))), some (.d (.int B)), some (.d (.int (evM2 rows left))), x11, x12, x13, x14] = E1 := ⟨_, rfl⟩
    rw [seq_nx a1, ← hE,
      seq_nx (s := law_b3_s2) (env' := [x0, some (.l 0), some (.d (histD rows)), some (.d (.int rows.length)), some (.d (.bool two)), x5, some (.d (skD left)), x7, some (.d (.int (m : Int))), x9, x10, x11, x12, x13, x14]) (h' := [bx1]) (by
        simp only [s_asg, x_call, x_cons, x_nil, x_var, List.getElem?_cons_succ, List.getElem?_cons_zero, b_ok, d1', bind_1, List.set_cons_succ, List.set_cons_zero]),
      seq_nx (s := law_b3_s3) (env' := [x0, some (.l 0), some (.d (histD rows)), some (.d (.int rows.length)), some (.d (.bool two)), x5, some (.d (skD left)), x7, some (.d (.int (m : Int))), x9, x10, x11, x12, x13, x14]) (h' := [bx1]) (by
        simp only [s_ifs, x_nt, x_call, x_cons, x_nil, x_blt, x_var, List.getElem?_cons_succ, List.getElem?_cons_zero, b_ok, pb, lp, tup_l, s1, Bool.not_true, s_nil]),
      seq_nx (s := law_b3_s4) (env' := E1) (h' := [bx1]) (by
        rw [← hE1]
        simp only [s_asg, x_call, x_cons, x_nil, x_var, List.getElem?_cons_succ, List.getElem?_cons_zero, b_ok, le, evP, bind_2l, List.set_cons_succ, List.set_cons_zero, hB, e2]),
      seq_nx (c5 E1 (by rw [← hE1]; rfl) (by rw [← hE1]; rfl) (by rw [← hE1]; rfl) (by rw [← hE1]; rfl) (by rw [← hE1]; rfl))]
    have ad : evBin .Add (.list [skD (inP rows left m), skD (outP rows left m)]) (.list [skD (inP rows left (evM2 rows left)), skD (outP rows left (evM2 rows left))]) = some (.list ([inP rows left m, outP rows left m, inP rows left (evM2 rows left), outP rows left (evM2 rows left)].map skD)) := by
      rw [add_l (by simp)]
      rfl
    have lcg : lcGo (fun w h => kpt none h (match bindT [11] false w E1 with
        | some env => (evOe 0 (callN tab 39) (.some (.cmp .NotEq (.var 11) (.tup .nil))) env h).bind fun q h => match boolO q with
          | some true => (evE 0 (callN tab 39) (.var 11) env h).bind fun r h => .ok (some r) h
          | some false => .ok none h
          | none => .bad
        | none => .bad)) (([inP rows left m, outP rows left m, inP rows left (evM2 rows left), outP rows left (evM2 rows left)]).map (W.d ∘ skD)) [bx1] = .ok (F.map (W.d ∘ skD)) [bx1] := by
      rw [lc_filter (p := fun l : List Nat => !l.isEmpty) (g := W.d ∘ skD), hF]
      intro l _
      have g : (E1.set 11 (some ((W.d ∘ skD) l)))[11]? = some (some (.d (skD l))) := by rw [← hE1]; rfl
      simp only [kpt_n, bind_1, x_some, x_cmp, x_var, g, x_tup, x_nil, allD_0, b_ok, ne_sk, boolO_b]
      cases l <;> rfl
    have g1 : E1[1]? = some (some (.l 0)) := by rw [← hE1]; rfl
    have g2 : E1[2]? = some (some (.d (histD rows))) := by rw [← hE1]; rfl
    have g6 : E1[6]? = some (some (.d (skD left))) := by rw [← hE1]; rfl
    have g8 : E1[8]? = some (some (.d (.int (m : Int)))) := by rw [← hE1]; rfl
    have g10 : E1[10]? = some (some (.d (.int (evM2 rows left)))) := by rw [← hE1]; rfl
    have lce := lcEnd_c (g := skD) (l := F) (h := [bx1])
    have it : evIt 0 (callN tab 39) (.e (.bin .Add (.call 17 (.cons (.var 2) (.cons (.var 6) (.cons (.var 8) .nil)))) (.call 17 (.cons (.var 2) (.cons (.var 6) (.cons (.var 10) .nil)))))) E1 [bx1] = .ok (([inP rows left m, outP rows left m, inP rows left (evM2 rows left), outP rows left (evM2 rows left)]).map (W.d ∘ skD), none) [bx1] := by
      simp only [x_ite, x_bin, x_call, x_cons, x_nil, x_var, g2, g6, g8, g10, b_ok, lp, lp2, op2_d, ad, liftO_s, it_l, live_d, List.map_map]
    have lcv : evE 0 (callN tab 39) (.lc 0 [11] false (.e (.bin .Add (.call 17 (.cons (.var 2) (.cons (.var 6) (.cons (.var 8) .nil)))) (.call 17 (.cons (.var 2) (.cons (.var 6) (.cons (.var 10) .nil)))))) (.some (.cmp .NotEq (.var 11) (.tup .nil))) (.var 11)) E1 [bx1] = .ok (.d (.list (F.map skD))) [bx1] := by
      rw [x_lc, it, b_ok]
      exact Eq.trans (congrArg (fun r => (noEx r).bind fun rs h => lcEnd 0 rs h) lcg) lce
    rw [s_cons, s_asg, x_call, x_cons, x_var, g1]
    simp only [b_ok, x_cons, lcv, x_nil, d2, bind_1, s_nil]
    rw [← hE1]
    rfl
end
end Ev

namespace Ev
open PySem
/-! the law's history; the ends -/
theorem bE_ub {m : Int} (m0 : 0 ≤ m) : ∀ {l : List Int}, (∀ x ∈ l, x ≤ m) → bE l ≤ m
  | [], _ => m0
  | x :: l, h => by
    have ih := bE_ub m0 (l := l) fun y hy => h y (List.mem_cons_of_mem _ hy)
    have hx := h x List.mem_cons_self
    unfold bE at ih ⊢
    show ((match maxI l with | none => some x | some k => some (if k < x then x else k)).getD 0) ≤ m
    cases e : maxI l with
    | none => simpa using hx
    | some k =>
      rw [e] at ih
      simp only [Option.getD_some] at ih ⊢
      split <;> omega
theorem bE_lb : ∀ {l : List Int}, (∀ x ∈ l, 0 ≤ x) → 0 ≤ bE l
  | [], _ => Int.le_refl 0
  | x :: l, h => by
    have hx := h x List.mem_cons_self
    unfold bE
    show 0 ≤ ((match maxI l with | none => some x | some k => some (if k < x then x else k)).getD 0)
    cases e : maxI l with
    | none => simpa using hx
    | some k =>
      simp only [Option.getD_some]
      split <;> omega
theorem bnd_sz : ∀ n : Nat, ∀ x ∈ bndE n, 0 ≤ x ∧ x ≤ n
  | 0, x, h => by cases h
  | 1, x, h => by
    have : x = 0 := by simpa [bndE] using h
    omega
  | n + 2, x, h => by
    rw [show bndE (n + 2) = bndE (n + 1) ++ [1 + bE ((bndE (n + 1)).take (n + 2 - (2 * (n + 2) + 3) / 6))] from rfl] at h
    have ih := bnd_sz (n + 1)
    rcases List.mem_append.mp h with h | h
    · have := ih x h
      omega
    · have e := List.mem_singleton.mp h
      have u := bE_ub (m := ((n + 1 : Nat) : Int)) (by omega) (l := (bndE (n + 1)).take (n + 2 - (2 * (n + 2) + 3) / 6)) fun y hy => (ih y (List.mem_of_mem_take hy)).2
      have l := bE_lb (l := (bndE (n + 1)).take (n + 2 - (2 * (n + 2) + 3) / 6)) fun y hy => (ih y (List.mem_of_mem_take hy)).1
      rw [e]
      omega
theorem bnd_at (n : Nat) : ((bndE (n + 1))[n]?.getD 0).natAbs < 10 ^ 40 ∨ 10000 < n := by
  by_cases c : 10000 < n
  · exact .inr c
  · left
    have l := bndE_len (n + 1)
    have e : (bndE (n + 1))[n]? = some ((bndE (n + 1))[n]'(by omega)) := List.getElem?_eq_getElem _
    have := bnd_sz (n + 1) _ (List.mem_of_getElem? e)
    have big : (100000 : Nat) < 10 ^ 40 := by decide
    rw [e, Option.getD_some]
    omega
structure H16 (rows : List (Str × List Int)) : Prop where
  R : Rows rows
  n0 : 0 < rows.length
  n1 : rows.length ≤ 14
  top : ∀ c, c < rows.length → Ab rows (rows.length - 1) c = true
theorem H16.left {rows : List (Str × List Int)} (p : H16 rows) : Lf rows (List.range rows.length) := by
  have n0 := p.n0
  exact ⟨by simp; omega, by simp, List.nodup_range, fun c hc => List.mem_range.mp hc, rows.length - 1, by omega, fun c hc => p.top c (List.mem_range.mp hc)⟩
theorem maxI_mem : ∀ {l : List Int} {m : Int}, maxI l = some m → m ∈ l
  | [], m, e => by cases e
  | x :: l, m, e => by
    change (match maxI l with | none => some x | some k => some (if k < x then x else k)) = some m at e
    cases q : maxI l with
    | none => rw [q] at e; cases e; exact List.mem_cons_self
    | some k =>
      rw [q] at e
      have hk := maxI_mem q
      simp only at e
      split at e
      · cases e; exact List.mem_cons_self
      · cases e; exact List.mem_cons_of_mem _ hk
theorem two_ok {rows : List (Str × List Int)} (hn : 0 < rows.length) (b : Nat) (C : CallF) (E : Vars) (h : Hq) (g2 : E[2]? = some (some (.d (histD rows)))) (g5 : 5 < E.length) : evE b C (.cmp .LtE (.blt .max (.cons (.lc 0 [5] false (.e (.idx (.var 2) (.lit (.int 1)))) .none (.blt .len (.cons (.idx (.var 5) (.lit (.int 1))) .nil))) .nil)) (.lit (.int 2))) E h = .ok (.d (.bool (rows.all fun r => decide (r.2.length ≤ 2)))) h := by
  obtain ⟨L, hL⟩ : ∃ L, rows.map (fun r => ((r.2.length : Nat) : Int)) = L := ⟨_, rfl⟩
  have ne : L ≠ [] := fun z => by rw [← hL, List.map_eq_nil_iff] at z; rw [z] at hn; cases hn
  have em := maxI_bE ne
  have mm := maxI_mem em
  have ml := maxI_le em
  have dc : decide (bE L ≤ 2) = rows.all fun r => decide (r.2.length ≤ 2) := by
    rw [Bool.eq_iff_iff, decide_eq_true_eq, List.all_eq_true]
    constructor
    · intro h r hr
      have := ml _ (by rw [← hL]; exact List.mem_map.mpr ⟨r, hr, rfl⟩)
      exact decide_eq_true (by omega)
    · intro h
      rw [← hL] at mm
      obtain ⟨r, hr, e⟩ := List.mem_map.mp mm
      have := of_decide_eq_true (h r hr)
      rw [← hL]
      omega
  simp only [x_cmp, x_blt, x_cons, x_nil, x_lc, x_ite, x_idx, x_var, g2, x_lit, b_ok, hist_1, it_t, live_d, kpt_n, List.map_map, x_none]
  rw [lc_map (emb := W.d ∘ rowD) (g := fun r => W.d (.int ((r.2.length : Nat) : Int))) rows]
  · have le := lcEnd_m (g := fun r : Str × List Int => PyData.int ((r.2.length : Nat) : Int)) (l := rows) (h := h)
    have e2 : (rows.map fun r : Str × List Int => PyData.int ((r.2.length : Nat) : Int)) = L.map .int := by rw [← hL, List.map_map]; rfl
    rw [e2] at le
    simp only [noEx_ok, b_ok, le, max_d em, cmp_d, le_i, dc, liftO_s]
  · intro r _
    have g : (E.set 5 (some ((W.d ∘ rowD) r)))[5]? = some (some (.d (rowD r))) := by simp [g5]
    simp only [bind_1, boolO_n, g, b_ok]
    simp [rowD]
theorem few_ok {rows : List (Str × List Int)} (b : Nat) (h : Hq) (n : Nat) {few : PyData} {k : Int} (hk : k < 2) (e : ∀ h, evB .len [.d few] h = .ok (.d (.int k)) h) : callN tab (n + 1) b 2 [.d (histD rows), .d few] h = .ex 1 [] h := by
  rw [call_of (fd := f_even_test) _ _ rfl rfl]
  have c : decide (k < 2) = true := decide_eq_true hk
  show finR true h.length (evSs h.length (callN tab n) f_even_test.body [some (.d (histD rows)), some (.d few), none, none, none, none] h) = _
  unfold f_even_test
  simp only [s_cons, s_ifs, x_cmp, x_blt, x_cons, x_nil, x_var, x_lit, List.getElem?_cons_succ, List.getElem?_cons_zero, b_ok, e, cmp_d, lt_i, liftO_s, c, even_test_b0, s_rais0, b_ex, finR_ex, if_true]
  simp
end Ev

namespace Ev
open PySem
theorem hist16 (n b : Nat) (bx : Ob) (hb : IsBox bx) {x0 x3 x4 x5 x6 x7 x8 x9 x10 x11 x12 x13 x14 : Option W} : ∃ rows bx', H16 rows ∧ IsBox bx' ∧ evSs b (callN tab (n + 3)) (.cons law_s1 (.cons law_s2 .nil)) [x0, some (.l 0), none, x3, x4, x5, x6, x7, x8, x9, x10, x11, x12, x13, x14] [bx] = .ok (.nx [x0, some (.l 0), some (.d (histD rows)), x3, x4, x5, x6, x7, x8, x9, x10, x11, x12, x13, x14]) [bx'] := by
  obtain ⟨rows, bx1, hH, hr, hb1, e1⟩ := history_ok n b [] (most := 14) hb (by decide) (by decide)
  have n0 : 0 < rows.length := List.length_pos_iff.mpr hH.ne
  obtain ⟨v, bx2, v0, v1, hb2, e2⟩ := draw_ok (n + 2) b [] (m := 2) hb1 (by decide)
  have h1 : H16 rows := ⟨hH.R, n0, by omega, fun c hc => Ab_all hH (by omega) (by omega)⟩
  have a1 : evS b (callN tab (n + 3)) law_s1 [x0, some (.l 0), none, x3, x4, x5, x6, x7, x8, x9, x10, x11, x12, x13, x14] [bx] = .ok (.nx [x0, some (.l 0), some (.d (histD rows)), x3, x4, x5, x6, x7, x8, x9, x10, x11, x12, x13, x14]) [bx1] := by
    simp only [s_asg, x_call, x_cons, x_nil, x_var, x_lit, List.getElem?_cons_succ, List.getElem?_cons_zero, b_ok, e1, bind_1, List.set_cons_succ, List.set_cons_zero]
  obtain ⟨L, pL, lt⟩ := law_two_ok (n + 2) b [bx2] hH.R (by omega)
  have tl : (twoRows rows L).length = rows.length := by simp [twoRows]
  have hR2 := twoRows_R pL
  have lw := law_is_whole_ok (n + 1) b [bx2] hR2 (by omega) (by omega)
  rw [seq_nx a1]
  by_cases c : v = 0
  · subst c
    cases w : (List.range (twoRows rows L).length).all fun c => Ab (twoRows rows L) ((twoRows rows L).length - 1) c with
    | false =>
      rw [w] at lw
      refine ⟨rows, bx2, h1, hb2, ?_⟩
      simp only [s_cons, s_ifs, x_and, x_one, x_cmp, x_call, x_cons, x_nil, x_var, x_lit, List.getElem?_cons_succ, List.getElem?_cons_zero, b_ok, e2, cmp_d, eq_d (x := .int 0) (y := .int 0) rfl, eqv_i, liftO_s, decide_true, lt, lw, s_nil]
    | true =>
      rw [w] at lw
      refine ⟨twoRows rows L, bx2, ⟨hR2, by omega, by omega, fun c hc => List.all_eq_true.mp w c (List.mem_range.mpr hc)⟩, hb2, ?_⟩
      simp only [s_cons, s_ifs, x_and, x_one, x_cmp, x_call, x_cons, x_nil, x_var, x_lit, List.getElem?_cons_succ, List.getElem?_cons_zero, b_ok, e2, cmp_d, eq_d (x := .int 0) (y := .int 0) rfl, eqv_i, liftO_s, decide_true, lt, lw, law_b0, s_asg, bind_1, List.set_cons_succ, List.set_cons_zero, s_nil]
  · refine ⟨rows, bx2, h1, hb2, ?_⟩
    have cc : decide (v = 0) = false := decide_eq_false c
    simp only [s_cons, s_ifs, x_and, x_one, x_cmp, x_call, x_cons, x_nil, x_var, x_lit, List.getElem?_cons_succ, List.getElem?_cons_zero, b_ok, e2, cmp_d, eq_d (x := .int v) (y := .int 0) rfl, eqv_i, liftO_s, cc, s_nil]
theorem plain (ns : List Int) (hns : ns.length ≤ 63) : ∃ hz, callN tab 40 0 23 [.d (.list (ns.map .int))] [] = .ok (.d (.bool true)) hz := by
  obtain ⟨ds, e0⟩ := digits_ok 37 0 [] ns
  obtain ⟨x0, hx0⟩ : ∃ x0 : Option W, some (W.d (.list (ns.map .int))) = x0 := ⟨_, rfl⟩
  obtain ⟨rows, bx1, hH, hb1, e1⟩ := hist16 36 0 (.lst [.list (ds.map .int), .int 0]) ⟨ds, 0, rfl⟩ (x0 := x0) (x3 := none) (x4 := none) (x5 := none) (x6 := none) (x7 := none) (x8 := none) (x9 := none) (x10 := none) (x11 := none) (x12 := none) (x13 := none) (x14 := none)
  have hR := hH.R
  have n0 := hH.n0
  have n1 := hH.n1
  have hr24 : rows.length ≤ 24 := by omega
  have big : (100000 : Nat) < 10 ^ 40 := by decide
  have pl := hH.left
  obtain ⟨two, htwo⟩ : ∃ two, (rows.all fun r => decide (r.2.length ≤ 2)) = two := ⟨_, rfl⟩
  obtain ⟨N, hN⟩ : ∃ N, rows.length = N + 1 := ⟨rows.length - 1, by omega⟩
  obtain ⟨T, hT⟩ : ∃ T, TE rows rows.length (List.range rows.length) = T := ⟨_, rfl⟩
  have smT := sm_TE hR hr24 rows.length _ pl.l1 pl.l2 pl.nd pl.lt
  rw [hT, List.length_range] at smT
  have i1 := even_most_ok hR hr24 rows.length (35 - rows.length) 0 [bx1] _ pl.l1 pl.l2 pl.nd pl.lt
  have i2 := law_treeE_ok hR hr24 rows.length (35 - rows.length) 0 [bx1] _ pl.l1 pl.l2 pl.nd pl.lt
  have i3 := even_tree_ok (34 - rows.length) 0 [bx1] hR hr24 n0
  have i4 := has_two_ok 38 0 [bx1] (rows := rows)
  have i5 := two_bound_ok 38 0 [bx1] (N := N) (by omega)
  have i6 := law_bound_ok 38 0 [bx1] (N := N) (by omega)
  rw [show 35 - rows.length + rows.length + 4 = 39 by omega, hT] at i1 i2
  rw [show 34 - rows.length + rows.length + 5 = 39 by omega, hT] at i3
  rw [htwo] at i4
  rw [← hN] at i5 i6
  obtain ⟨B, hB⟩ : ∃ B, (bndE rows.length)[N]?.getD 0 = B := ⟨_, rfl⟩
  rw [hB] at i5 i6
  have sB : B.natAbs < 10 ^ 40 := by
    rcases bnd_at N with h | h
    · rw [← hN, hB] at h; exact h
    · omega
  have s6 := same_ok 38 0 [bx1] (sm_lst (ds := [.bool two, T.d, .int B]) (k := 300 * 14) (j := 15) fun d hd => by
    simp only [List.mem_cons, List.not_mem_nil, or_false] at hd
    rcases hd with rfl | rfl | rfl
    · exact sm_bool.mono (by omega) (by omega)
    · exact smT.mono (by omega) (by omega)
    · exact (sm_int sB).mono (by omega) (by omega)) (by simp)
  -- the head
  obtain ⟨E, hE⟩ : ∃ E : Vars, [x0, some (.l 0), some (.d (histD rows)), some (.d (.int rows.length)), some (.d (.bool two)), none, some (.d (skD (List.range rows.length))), none, none, none, none, none, none, none, none] = E := ⟨_, rfl⟩
  have a3 : evS 0 (callN tab 39) law_s3 [x0, some (.l 0), some (.d (histD rows)), none, none, none, none, none, none, none, none, none, none, none, none] [bx1] = .ok (.nx [x0, some (.l 0), some (.d (histD rows)), some (.d (.int rows.length)), none, none, none, none, none, none, none, none, none, none, none]) [bx1] := by
    simp only [s_asg, x_blt, x_cons, x_nil, x_idx, x_var, x_lit, List.getElem?_cons_succ, List.getElem?_cons_zero, b_ok, hist_1, len_t, List.length_map, bind_1, List.set_cons_succ, List.set_cons_zero]
  have a4 : evS 0 (callN tab 39) law_s4 [x0, some (.l 0), some (.d (histD rows)), some (.d (.int rows.length)), none, none, none, none, none, none, none, none, none, none, none] [bx1] = .ok (.nx [x0, some (.l 0), some (.d (histD rows)), some (.d (.int rows.length)), some (.d (.bool two)), none, none, none, none, none, none, none, none, none, none]) [bx1] := by
    have := two_ok n0 0 (callN tab 39) [x0, some (.l 0), some (.d (histD rows)), some (.d (.int rows.length)), none, none, none, none, none, none, none, none, none, none, none] [bx1] rfl (by simp)
    rw [s_asg, this, htwo]
    rfl
  have a5 : evS 0 (callN tab 39) law_s5 [x0, some (.l 0), some (.d (histD rows)), some (.d (.int rows.length)), some (.d (.bool two)), none, none, none, none, none, none, none, none, none, none] [bx1] = .ok (.nx E) [bx1] := by
    rw [← hE]
    simp only [s_asg, x_trg, x_var, List.getElem?_cons_succ, List.getElem?_cons_zero, b_ok, rg_nat (n := rows.length) (by omega), if_true, bind_1, List.set_cons_succ, List.set_cons_zero, Int.toNat_natCast]
    rfl
  have a6 : evS 0 (callN tab 39) law_s6 E [bx1] = .ok (.nx E) [bx1] := by
    rw [← hE]
    simp only [s_ifs, x_nt, x_call, x_cons, x_nil, x_lst, x_var, List.getElem?_cons_succ, List.getElem?_cons_zero, b_ok, i2, i3, i4, i5, i6, allD_c, allD_0, Option.map_some, s6, Bool.not_true, s_nil]
  have a7 : evS 0 (callN tab 39) law_s7 E [bx1] = .ok (.nx E) [bx1] := by
    rw [← hE]
    cases two with
    | false => simp only [s_ifs, x_and, x_var, List.getElem?_cons_succ, List.getElem?_cons_zero, b_ok, s_nil]
    | true =>
      have h2 : ∀ (k : Nat) (r : Str × List Int), rows[k]? = some r → r.2.length ≤ 2 := fun k r e => by
        have := List.all_eq_true.mp htwo r (List.mem_of_getElem? e)
        exact of_decide_eq_true this
      have tb := TE_bound hR h2 rows.length _ pl.l1 pl.l2 pl.nd pl.lt pl.top
      have eb : bndN (List.range rows.length).length = B := by
        rw [List.length_range]
        unfold bndN
        rw [← hB, show rows.length - 1 = N by omega]
      rw [hT, eb] at tb
      have gd : decide (B < (dqT T : Nat)) = false := decide_eq_false (by omega)
      simp only [s_ifs, x_and, x_one, x_cmp, x_call, x_cons, x_nil, x_var, List.getElem?_cons_succ, List.getElem?_cons_zero, b_ok, i1, i6, cmp_d, gt_i, gd, liftO_s, s_nil]
  -- the turns
  have tn := fun {x0 x5 x7 x8 x9 x10 x11 x12 x13 x14 : Option W} {bx : Ob} (hb : IsBox bx) {left : List Nat} (p : Lf rows left) => turn_ok hR n1 n0 (x0 := x0) (x5 := x5) (x7 := x7) (x8 := x8) (x9 := x9) (x10 := x10) (x11 := x11) (x12 := x12) (x13 := x13) (x14 := x14) hb p
  rw [htwo] at tn
  obtain ⟨env8, h8, e8, bx2, left2, y7, y8, y9, y10, hb2, -, rfl, rfl⟩ := forGo_brk (f := fun w env h => kpt none h (match bindT [7] false w env with
    | some env => evSs 0 (callN tab 39) law_b3 env h
    | none => .bad)) (fun env h => ∃ bx left y7 y8 y9 y10, IsBox bx ∧ Lf rows left ∧ env = [x0, some (.l 0), some (.d (histD rows)), some (.d (.int rows.length)), some (.d (.bool two)), none, some (.d (skD left)), y7, y8, y9, y10, none, none, none, none] ∧ h = [bx]) (rangeUp 0 (rows.length : Nat)) E [bx1] ⟨bx1, List.range rows.length, none, none, none, none, hb1, pl, hE.symm, rfl⟩ (by
      rintro w env h _ ⟨bx, left, y7, y8, y9, y10, hb, p, rfl, rfl⟩
      obtain ⟨bx', left', z8, z9, z10, hb', p', e⟩ := tn (x0 := x0) (x5 := none) (x7 := some w) (x8 := y8) (x9 := y9) (x10 := y10) (x11 := none) (x12 := none) (x13 := none) (x14 := none) hb p
      rcases e with e | e
      · exact ⟨_, _, .inl (by simp only [kpt_n, bind_1, List.set_cons_succ, List.set_cons_zero]; exact e), bx', left', some w, z8, z9, z10, hb', p', rfl, rfl⟩
      · exact ⟨_, _, .inr (by simp only [kpt_n, bind_1, List.set_cons_succ, List.set_cons_zero]; exact e), bx', left', some w, z8, z9, z10, hb', p', rfl, rfl⟩)
  obtain ⟨F, hF⟩ : ∃ F : Vars, [x0, some (.l 0), some (.d (histD rows)), some (.d (.int rows.length)), some (.d (.bool two)), none, some (.d (skD left2)), y7, y8, y9, y10, none, none, none, none] = F := ⟨_, rfl⟩
  have a8 : evS 0 (callN tab 39) law_s8 E [bx1] = .ok (.nx F) [bx2] := by
    rw [← hF]
    have g3 : E[3]? = some (some (.d (.int rows.length))) := by rw [← hE]; rfl
    simp only [s_for, x_rg1, x_var, g3, b_ok, rg_nat (n := rows.length) (by omega), if_true]
    exact e8
  -- fewer than two
  have f0 := few_ok (rows := rows) 0 [bx2] 38 (few := .tuple []) (k := 0) (by decide) fun h => rfl
  have f1 := few_ok (rows := rows) 0 [bx2] 38 (few := .tuple [.int 0]) (k := 1) (by decide) fun h => rfl
  have tr : ∀ (x12 : Option W) (few : PyData), callN tab 39 0 2 [.d (histD rows), .d few] [bx2] = .ex 1 [] [bx2] → evSs 0 (callN tab 39) law_b8 [x0, some (.l 0), some (.d (histD rows)), some (.d (.int rows.length)), some (.d (.bool two)), none, some (.d (skD left2)), y7, y8, y9, y10, none, some (.d few), x12, none] [bx2] = .ok (.nx [x0, some (.l 0), some (.d (histD rows)), some (.d (.int rows.length)), some (.d (.bool two)), none, some (.d (skD left2)), y7, y8, y9, y10, none, some (.d few), none, none]) [bx2] := fun x12 few e => by
    obtain ⟨G, hG⟩ : ∃ G : Vars, [x0, some (.l 0), some (.d (histD rows)), some (.d (.int rows.length)), some (.d (.bool two)), none, some (.d (skD left2)), y7, y8, y9, y10, none, some (.d few), x12, none] = G := ⟨_, rfl⟩
    have b9 : evSs 0 (callN tab 39) law_b9 G [bx2] = .ex 1 [] [bx2] := by
      rw [← hG]
      simp only [law_b9, s_cons, s_expr, x_call, x_cons, x_nil, x_var, List.getElem?_cons_succ, List.getElem?_cons_zero, b_ok, e, b_ex]
    unfold law_b8
    rw [hG, seq_nx (s := law_b8_s0) (env' := [x0, some (.l 0), some (.d (histD rows)), some (.d (.int rows.length)), some (.d (.bool two)), none, some (.d (skD left2)), y7, y8, y9, y10, none, some (.d few), none, none]) (h' := [bx2]) (by
      rw [s_try_ex 0 _ _ _ b9 rfl (by rw [← hG]; rfl)]
      have k0 : setN (some 13) (W.x 1 []) (keepE [0, 1, 2, 3, 4, 5, 6, 7, 8, 9, 10, 11, 12, 14] 0 G) = [x0, some (.l 0), some (.d (histD rows)), some (.d (.int rows.length)), some (.d (.bool two)), none, some (.d (skD left2)), y7, y8, y9, y10, none, some (.d few), some (.x 1 []), none] := by rw [← hG]; rfl
      rw [k0]
      simp only [law_b10, s_cons, s_ifs]
      rw [x_exis 0 _ _ _ rfl]
      rfl), s_nil]
  have a9 : evS 0 (callN tab 39) law_s9 F [bx2] = .ok (.nx [x0, some (.l 0), some (.d (histD rows)), some (.d (.int rows.length)), some (.d (.bool two)), none, some (.d (skD left2)), y7, y8, y9, y10, none, some (.d (.tuple [.int 0])), none, none]) [bx2] := by
    rw [← hF]
    have t0 := tr none _ f0
    have t1 := tr none _ f1
    simp only [s_for, x_ite, x_lst, x_cons, x_nil, x_tup, x_lit, allD_0, allD_c, Option.map_some, b_ok, it_l, live_d, kpt_n, List.map_cons, List.map_nil, forGo, bind_1, List.set_cons_succ, List.set_cons_zero, t0, t1]
  obtain ⟨v, bx3, v0, v1, hb3, d3⟩ := draw_ok 38 0 [] hb2 (m := 900) (by decide)
  obtain ⟨M, hM, hM2⟩ : ∃ M : Nat, (1000 : Int) - v = ((M + 1 : Nat) : Int) ∧ M ≤ 1000 := ⟨(999 - v).toNat, by omega, by omega⟩
  have t5 := two_bound_ok 38 0 [bx3] (N := M) (by omega)
  have t6 := law_bound_ok 38 0 [bx3] (N := M) (by omega)
  have s11 := same_ok 38 0 [bx3] (sm_int (i := (bndE (M + 1))[M]?.getD 0) (by
    rcases bnd_at M with h | h
    · exact h
    · omega))
  obtain ⟨G, hG⟩ : ∃ G : Vars, [x0, some (.l 0), some (.d (histD rows)), some (.d (.int ((M + 1 : Nat) : Int))), some (.d (.bool two)), none, some (.d (skD left2)), y7, y8, y9, y10, none, some (.d (.tuple [.int 0])), none, none] = G := ⟨_, rfl⟩
  have a10 : evS 0 (callN tab 39) law_s10 [x0, some (.l 0), some (.d (histD rows)), some (.d (.int rows.length)), some (.d (.bool two)), none, some (.d (skD left2)), y7, y8, y9, y10, none, some (.d (.tuple [.int 0])), none, none] [bx2] = .ok (.nx G) [bx3] := by
    have d3' : callN tab 39 0 10 [.l 0, .d (.int 900)] [bx2] = .ok (.d (.int v)) [bx3] := d3
    rw [← hG]
    simp only [s_asg, x_bin, x_lit, x_call, x_cons, x_nil, x_var, List.getElem?_cons_succ, List.getElem?_cons_zero, b_ok, d3', op2_d, sub_i, liftO_s, hM, bind_1, List.set_cons_succ, List.set_cons_zero]
  have a11 : evS 0 (callN tab 39) law_s11 G [bx3] = .ok (.nx G) [bx3] := by
    have g3 : G[3]? = some (some (.d (.int ((M + 1 : Nat) : Int)))) := by rw [← hG]; rfl
    simp only [s_ifs, x_nt, x_call, x_cons, x_nil, x_var, g3, b_ok, t5, t6, s11, Bool.not_true, s_nil]
  have s12 := same_ok 38 0 [bx3] (sm_lst (ds := [.int 0, .int 1, .int 2, .int 3, .int 3, .int 4, .int 4, .int 4, .int 5]) (k := 41) (j := 0) fun d hd => by
    simp only [List.mem_cons, List.not_mem_nil, or_false] at hd
    rcases hd with rfl | rfl | rfl | rfl | rfl | rfl | rfl | rfl | rfl <;> exact sm_int (by decide)) (by decide)
  have a12 : evS 0 (callN tab 39) law_s12 G [bx3] = .ok (.rt (.d (.bool true))) [bx3] := by
    have ru : rangeUp 1 10 = (List.range 9).map (W.d ∘ fun i : Nat => .int ((i + 1 : Nat) : Int)) := by
      unfold rangeUp
      apply List.map_congr_left
      intro i _
      simp only [Function.comp]
      rw [show ((1 : Int) + (i : Nat)) = ((i + 1 : Nat) : Int) by omega]
    have rgk : rgOk 1 10 = true := rg_of (by omega) (by omega) (by omega) (by omega)
    have gl : 14 < G.length := by rw [← hG]; simp
    have vl : (List.range 9).map (fun i => PyData.int ((bndE (i + 1))[i]?.getD 0)) = [.int 0, .int 1, .int 2, .int 3, .int 3, .int 4, .int 4, .int 4, .int 5] := by rfl
    simp only [s_ret, x_call, x_cons, x_nil, x_lc, x_rg2, x_lit, b_ok, rgk, if_true, kpt_n, ru, x_none, x_lst, allD_0, allD_c, Option.map_some]
    rw [lc_map (emb := W.d ∘ fun i : Nat => .int ((i + 1 : Nat) : Int)) (g := fun i => W.d (.int ((bndE (i + 1))[i]?.getD 0)))]
    · have le := lcEnd_m (g := fun i => PyData.int ((bndE (i + 1))[i]?.getD 0)) (l := List.range 9) (h := [bx3])
      rw [vl] at le
      simp only [noEx_ok, b_ok, le, s12]
    · intro i hi
      have hi := List.mem_range.mp hi
      have t := two_bound_ok 38 0 [bx3] (N := i) (by omega)
      have g : (G.set 14 (some ((W.d ∘ fun i : Nat => PyData.int ((i + 1 : Nat) : Int)) i)))[14]? = some (some (.d (.int ((i + 1 : Nat) : Int)))) := by simp [gl]
      simp only [bind_1, boolO_n, x_var, g, b_ok, t]
  rw [call_of (fd := f_law) _ _ rfl rfl]
  show ∃ hz, finR true 0 (evSs 0 (callN tab 39) f_law.body [some (.d (.list (ns.map .int))), none, none, none, none, none, none, none, none, none, none, none, none, none, none] []) = _
  rw [hx0]
  have e1' : evSs 0 (callN tab 39) (.cons law_s1 (.cons law_s2 .nil)) [x0, some (.l 0), none, none, none, none, none, none, none, none, none, none, none, none, none] [.lst [.list (ds.map .int), .int 0]] = _ := e1
  have two_seq : ∀ (s1 s2 : S) (ss : Ss) (env env' : Vars) (h h' : Hq), evSs 0 (callN tab 39) (.cons s1 (.cons s2 .nil)) env h = .ok (.nx env') h' → evSs 0 (callN tab 39) (.cons s1 (.cons s2 ss)) env h = evSs 0 (callN tab 39) ss env' h' := fun s1 s2 ss env env' h h' e => by
    simp only [s_cons, s_nil] at e ⊢
    cases q1 : evS 0 (callN tab 39) s1 env h with
    | bad => rw [q1] at e; simp [R.bind] at e
    | ex c ds hh => rw [q1] at e; simp at e
    | ok f hh =>
      rw [q1] at e
      simp only [b_ok] at e ⊢
      cases f with
      | nx env1 =>
        simp only at e ⊢
        cases q2 : evS 0 (callN tab 39) s2 env1 hh with
        | bad => rw [q2] at e; simp [R.bind] at e
        | ex c ds hh => rw [q2] at e; simp at e
        | ok f2 h2 =>
          rw [q2] at e
          simp only [b_ok] at e ⊢
          cases f2 <;> simp at e
          obtain ⟨rfl, rfl⟩ := e
          rfl
      | rt w => simp at e
      | bk w => simp at e
      | ct w => simp at e
  refine ⟨[], ?_⟩
  unfold f_law
  simp only
  rw [seq_nx (s := law_s0) (env' := [x0, some (.l 0), none, none, none, none, none, none, none, none, none, none, none, none, none]) (h' := [.lst [.list (ds.map .int), .int 0]]) (by rw [← hx0]; simp [e0]),
    two_seq _ _ _ _ _ _ _ e1', seq_nx a3, seq_nx a4, seq_nx a5, seq_nx a6, seq_nx a7, seq_nx a8, seq_nx a9, seq_nx a10, seq_nx a11, seq_rt a12]
  rfl
end Ev

namespace Ev
open PySem PySem.Spec PyProof.Rows L2
def top (i : Nat) : Stmt := PySem.Challenge.pw_firstbreak_k16_even_testing.main.body.getD i (.Pass ⟨0, 0, 0, 0⟩)
def d_ancestors : DF := ⟨"ancestors", top 5, ["history", "m"], n_ancestors, f_ancestors⟩
theorem bd_ancestors : d_ancestors.Bnd := fun _ _ _ _ _ _ us hl => match us, hl with | [_, _], _ => rfl
def d_parts_by : DF := ⟨"parts_by", top 7, ["history", "left", "m"], n_parts_by, f_parts_by⟩
theorem bd_parts_by : d_parts_by.Bnd := fun _ _ _ _ _ _ us hl => match us, hl with | [_, _, _], _ => rfl
def d_even_test : DF := ⟨"even_test", top 8, ["history", "left"], n_even_test, f_even_test⟩
theorem bd_even_test : d_even_test.Bnd := fun _ _ _ _ _ _ us hl => match us, hl with | [_, _], _ => rfl
def d_even_most : DF := ⟨"even_most", top 9, ["history", "left"], n_even_most, f_even_most⟩
theorem bd_even_most : d_even_most.Bnd := fun _ _ _ _ _ _ us hl => match us, hl with | [_, _], _ => rfl
def d_tree_for : DF := ⟨"tree_for", top 10, ["history", "left"], n_tree_for, f_tree_for⟩
theorem bd_tree_for : d_tree_for.Bnd := fun _ _ _ _ _ _ us hl => match us, hl with | [_, _], _ => rfl
def d_even_tree : DF := ⟨"even_tree", top 11, ["history"], n_even_tree, f_even_tree⟩
theorem bd_even_tree : d_even_tree.Bnd := fun _ _ _ _ _ _ us hl => match us, hl with | [_], _ => rfl
def d_has_two : DF := ⟨"has_two", top 12, ["history"], n_has_two, f_has_two⟩
theorem bd_has_two : d_has_two.Bnd := fun _ _ _ _ _ _ us hl => match us, hl with | [_], _ => rfl
def d_two_bound : DF := ⟨"two_bound", top 13, ["n"], n_two_bound, f_two_bound⟩
theorem bd_two_bound : d_two_bound.Bnd := fun _ _ _ _ _ _ us hl => match us, hl with | [_], _ => rfl
def d_law_cell : DF := ⟨"_law_cell", top 15, ["_law_script", "_law_k"], n_law_cell, f_law_cell⟩
theorem bd_law_cell : d_law_cell.Bnd := fun _ _ _ _ _ _ us hl => match us, hl with | [_, _], _ => rfl
def d_law_digits : DF := ⟨"_law_digits", top 16, ["_law_script", "_law_first", "_law_last"], n_law_digits, f_law_digits⟩
theorem bd_law_digits : d_law_digits.Bnd := fun _ _ _ _ _ _ us hl => match us, hl with | [_, _, _], _ => rfl
def d_law_draw : DF := ⟨"_law_draw", top 17, ["_law_box", "_law_many"], n_law_draw, f_law_draw⟩
theorem bd_law_draw : d_law_draw.Bnd := fun _ _ _ _ _ _ us hl => match us, hl with | [_, _], _ => rfl
def d_law_pick : DF := ⟨"_law_pick", top 18, ["_law_box", "_law_things"], n_law_pick, f_law_pick⟩
theorem bd_law_pick : d_law_pick.Bnd := fun _ _ _ _ _ _ us hl => match us, hl with | [_, _], _ => rfl
def d_law_same : DF := ⟨"_law_same", top 19, ["_law_actual", "_law_due"], n_law_same, f_law_same⟩
theorem bd_law_same : d_law_same.Bnd := fun _ _ _ _ _ _ us hl => match us, hl with | [_, _], _ => rfl
def d_law_word : DF := ⟨"_law_word", top 20, ["_law_box", "_law_k", "_law_at"], n_law_word, f_law_word⟩
theorem bd_law_word : d_law_word.Bnd := fun _ _ _ _ _ _ us hl => match us, hl with | [_, _, _], _ => rfl
def d_law_history : DF := ⟨"_law_history", top 21, ["_law_box", "_law_most"], n_law_history, f_law_history⟩
theorem bd_law_history : d_law_history.Bnd := fun _ _ _ _ _ _ us hl => match us, hl with | [_, _], _ => rfl
def d_law_above : DF := ⟨"_law_above", top 22, ["_law_history_here", "_law_m"], n_law_above, f_law_above⟩
theorem bd_law_above : d_law_above.Bnd := fun _ _ _ _ _ _ us hl => match us, hl with | [_, _], _ => rfl
def d_law_two : DF := ⟨"_law_two", top 23, ["_law_history_here"], n_law_two, f_law_two⟩
theorem bd_law_two : d_law_two.Bnd := fun _ _ _ _ _ _ us hl => match us, hl with | [_], _ => rfl
def d_law_parts : DF := ⟨"_law_parts", top 24, ["_law_history_here", "_law_left", "_law_m"], n_law_parts, f_law_parts⟩
theorem bd_law_parts : d_law_parts.Bnd := fun _ _ _ _ _ _ us hl => match us, hl with | [_, _, _], _ => rfl
def d_law_even : DF := ⟨"_law_even", top 25, ["_law_history_here", "_law_left"], n_law_even, f_law_even⟩
theorem bd_law_even : d_law_even.Bnd := fun _ _ _ _ _ _ us hl => match us, hl with | [_, _], _ => rfl
def d_law_tree : DF := ⟨"_law_tree", top 26, ["_law_history_here", "_law_left"], n_law_tree, f_law_tree⟩
theorem bd_law_tree : d_law_tree.Bnd := fun _ _ _ _ _ _ us hl => match us, hl with | [_, _], _ => rfl
def d_law_depth : DF := ⟨"_law_depth", top 27, ["_law_tree_here"], n_law_depth, f_law_depth⟩
theorem bd_law_depth : d_law_depth.Bnd := fun _ _ _ _ _ _ us hl => match us, hl with | [_], _ => rfl
def d_law_bound : DF := ⟨"_law_bound", top 28, ["_law_n"], n_law_bound, f_law_bound⟩
theorem bd_law_bound : d_law_bound.Bnd := fun _ _ _ _ _ _ us hl => match us, hl with | [_], _ => rfl
def d_law_is_whole : DF := ⟨"_law_is_whole", top 29, ["_law_history_here"], n_law_is_whole, f_law_is_whole⟩
theorem bd_law_is_whole : d_law_is_whole.Bnd := fun _ _ _ _ _ _ us hl => match us, hl with | [_], _ => rfl
def d_law : DF := ⟨"law", top 30, ["_law_script"], n_law, f_law⟩
theorem bd_law : d_law.Bnd := fun _ _ _ _ _ _ us hl => match us, hl with | [_], _ => rfl
def dfs : List DF := [d_ancestors, d_parts_by, d_even_test, d_even_most, d_tree_for, d_even_tree, d_has_two, d_two_bound, d_law_cell, d_law_digits, d_law_draw, d_law_pick, d_law_same, d_law_word, d_law_history, d_law_above, d_law_two, d_law_parts, d_law_even, d_law_tree, d_law_depth, d_law_bound, d_law_is_whole, d_law]
theorem bd : ∀ d ∈ dfs, d.Bnd := List.forall_mem_cons.mpr ⟨bd_ancestors, List.forall_mem_cons.mpr ⟨bd_parts_by, List.forall_mem_cons.mpr ⟨bd_even_test, List.forall_mem_cons.mpr ⟨bd_even_most, List.forall_mem_cons.mpr ⟨bd_tree_for, List.forall_mem_cons.mpr ⟨bd_even_tree, List.forall_mem_cons.mpr ⟨bd_has_two, List.forall_mem_cons.mpr ⟨bd_two_bound, List.forall_mem_cons.mpr ⟨bd_law_cell, List.forall_mem_cons.mpr ⟨bd_law_digits, List.forall_mem_cons.mpr ⟨bd_law_draw, List.forall_mem_cons.mpr ⟨bd_law_pick, List.forall_mem_cons.mpr ⟨bd_law_same, List.forall_mem_cons.mpr ⟨bd_law_word, List.forall_mem_cons.mpr ⟨bd_law_history, List.forall_mem_cons.mpr ⟨bd_law_above, List.forall_mem_cons.mpr ⟨bd_law_two, List.forall_mem_cons.mpr ⟨bd_law_parts, List.forall_mem_cons.mpr ⟨bd_law_even, List.forall_mem_cons.mpr ⟨bd_law_tree, List.forall_mem_cons.mpr ⟨bd_law_depth, List.forall_mem_cons.mpr ⟨bd_law_bound, List.forall_mem_cons.mpr ⟨bd_law_is_whole, List.forall_mem_cons.mpr ⟨bd_law, fun _ h => nomatch h⟩⟩⟩⟩⟩⟩⟩⟩⟩⟩⟩⟩⟩⟩⟩⟩⟩⟩⟩⟩⟩⟩⟩⟩
def gss : List (Str × Str) := []
def cls0 : List CDef := [⟨"BreakError", true, [0, 1, 2], []⟩, ⟨"BadState", true, [1], []⟩, ⟨"TooGreat", true, [2], []⟩, ⟨"ValueError", false, [0, 1, 2], []⟩]
def gis : List (Str × Int) := []
def ge : GE := ⟨dfs.map (·.nm), gis, gss, cls0⟩
theorem ck : dfs.all (DF.chk ge) = true := by decide +kernel
abbrev Rw : PySem.W.OpenRow := PySem.W.OpenLaw.row PySem.Challenge.rw_firstbreak_k16_even_testing
abbrev hk : PySem.W.Hook := hookE 4 (fas dfs ge) (fns dfs) (clsB cls0)
def ob (s : PySem.W.SharedT) : AlE := obsE 4 (fas dfs ge) (fns dfs) (clsB cls0) (HandSHeadRun.getT s)
theorem ob_eq (s : PySem.W.SharedT) : ob s = hk.obs s.abs := obsE_eq (HandSHeadRun.getT_eq s)
def loo : List PySem.Str := [("__name__" : PySem.Str), ("BreakError" : PySem.Str), ("BadState" : PySem.Str), ("TooGreat" : PySem.Str), ("ancestors" : PySem.Str), ("parts_by" : PySem.Str), ("even_test" : PySem.Str), ("even_most" : PySem.Str), ("tree_for" : PySem.Str), ("even_tree" : PySem.Str), ("has_two" : PySem.Str), ("two_bound" : PySem.Str), ("_law_cell" : PySem.Str), ("_law_digits" : PySem.Str), ("_law_draw" : PySem.Str), ("_law_pick" : PySem.Str), ("_law_same" : PySem.Str), ("_law_word" : PySem.Str), ("_law_history" : PySem.Str), ("_law_above" : PySem.Str), ("_law_two" : PySem.Str), ("_law_parts" : PySem.Str), ("_law_even" : PySem.Str), ("_law_tree" : PySem.Str), ("_law_depth" : PySem.Str), ("_law_bound" : PySem.Str), ("_law_is_whole" : PySem.Str)]
theorem run (w : World) : HandSHeadRun.RunEq Rw (PySem.W.view Rw.prog [30]) hk ob 3000 [("__name__" : PySem.Str), ("BreakError" : PySem.Str), ("BadState" : PySem.Str), ("TooGreat" : PySem.Str), ("ancestors" : PySem.Str), ("parts_by" : PySem.Str), ("even_test" : PySem.Str), ("even_most" : PySem.Str), ("tree_for" : PySem.Str), ("even_tree" : PySem.Str), ("has_two" : PySem.Str), ("two_bound" : PySem.Str), ("_law_cell" : PySem.Str), ("_law_digits" : PySem.Str), ("_law_draw" : PySem.Str), ("_law_pick" : PySem.Str), ("_law_same" : PySem.Str), ("_law_word" : PySem.Str), ("_law_history" : PySem.Str), ("_law_above" : PySem.Str), ("_law_two" : PySem.Str), ("_law_parts" : PySem.Str), ("_law_even" : PySem.Str), ("_law_tree" : PySem.Str), ("_law_depth" : PySem.Str), ("_law_bound" : PySem.Str), ("_law_is_whole" : PySem.Str)] w := by
  intro os
  kernel_rfl
end Ev
open PySem PySem.W PySem.Calls PyProof.Rows
theorem PySem.Challenge.cw_firstbreak_k16_even_testing_holds : PySem.Challenge.rw_firstbreak_k16_even_testing.Holds := by
  w_on; o_law
  refine HandSHeadRun.head_any (r := OpenLaw.row PySem.Challenge.rw_firstbreak_k16_even_testing) (q := view (OpenLaw.row PySem.Challenge.rw_firstbreak_k16_even_testing).prog [30]) (H := Ev.hk) (ob := Ev.ob) (M := 3000) (loose := [("__name__" : PySem.Str), ("BreakError" : PySem.Str), ("BadState" : PySem.Str), ("TooGreat" : PySem.Str), ("ancestors" : PySem.Str), ("parts_by" : PySem.Str), ("even_test" : PySem.Str), ("even_most" : PySem.Str), ("tree_for" : PySem.Str), ("even_tree" : PySem.Str), ("has_two" : PySem.Str), ("two_bound" : PySem.Str), ("_law_cell" : PySem.Str), ("_law_digits" : PySem.Str), ("_law_draw" : PySem.Str), ("_law_pick" : PySem.Str), ("_law_same" : PySem.Str), ("_law_word" : PySem.Str), ("_law_history" : PySem.Str), ("_law_above" : PySem.Str), ("_law_two" : PySem.Str), ("_law_parts" : PySem.Str), ("_law_even" : PySem.Str), ("_law_tree" : PySem.Str), ("_law_depth" : PySem.Str), ("_law_bound" : PySem.Str), ("_law_is_whole" : PySem.Str)]) (d := HandSHeadRun.topDef (OpenLaw.row PySem.Challenge.rw_firstbreak_k16_even_testing).prog 30) (kwd := []) Ev.ob_eq
    (by kernel_rfl) (fun s => by kernel_rfl) Ev.run (by kernel_rfl) (by kernel_rfl) (by kernel_rfl) (by rfl) (by first | assumption | decide +kernel) (by decide +kernel) ⟨rfl, rfl, rfl, rfl, rfl, by decide +kernel⟩ ?hw ?hc
  case hw => w_witness2
  case hc =>
    refine Ev.walkG (l := PySem.Challenge.rw_firstbreak_k16_even_testing) (n := 63) (k := 40) (x := "_law_script") (CX := Ev.CXW (PySem.Challenge.rw_firstbreak_k16_even_testing).prog) rfl (by decide) (by kernel_rfl) ⟨rfl, by decide, by decide⟩ ?F (fun _ _ _ _ z => Ev.CXW.none z)
    intro w mg fa h Y G hmg0
    obtain ⟨K, KX, c, cb⟩ := Y
    have hmg : mg ("law" : PySem.Str) = some (.ref fa) := by
      have e : (HandSHeadRun.topDef (OpenLaw.row PySem.Challenge.rw_firstbreak_k16_even_testing).prog 30).name = ("law" : PySem.Str) := by kernel_rfl
      rw [← e]
      exact hmg0
    exact Ev.law_facts (n := 39) (i := 23) (d := Ev.d_law) KX G c rfl Ev.ck cb Ev.bd rfl rfl hmg Ev.plain
