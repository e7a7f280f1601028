import PyProof.Rows.All
import Wide.All
import OpenK.AllK
import Wide.FinOn
import HandS.ForMost
import HandS.ForExc
import HandS.Deep
import KE.DataFind
import KE.DataMinMax
import KE.SortData
import KE.KeyNested
import HandS.TupMul
import HandS.Codes
import HandS.RaiseMore
import HandS.TupAny
import HandS.Flow
import HandS.Iter
import HandS.ExcOwn
import HandS.Defaults
import HandS.Ends
import HandS.CallRecv
import HandS.ExcInit
import KE.KExcSuper
import KE.KSuper
import HandS.ExcIs
import HandS.ExcField
import HandS.HeadHook1
import KE.KExcIs
import HandS.Style
import KE.SortCalls
import HandS.SetFor
import HandS.Strs
import HandS.SortInts
import KE.DataCmp
import PyProof.ReprRoads
import KE.KDictSum
import KE.KDictCopyH
import HandS.ExcValue
import PyProof.SumWalkG
import KE.KTupSum
import HandS.Conv
import KE.DataIsa
import HandS.Dict
import HandS.HeadEnd
import KE.KStateDown
import HandS.More
import HandS.Words
import HandS.WordsExc
import HandS.Head0
import HandS.Head1
import HandS.Head2
import HandS.HeadHook2
import KE.DataEq
import PyProof.FitsInt
import HandS.FStrTup
import Lean
import PySem.Challenge.RW_firstbreak_k13_wrong_texts
set_option Elab.async false
set_option linter.all false
set_option maxRecDepth 100000
set_option maxHeartbeats 0
/-! EvA: a small language of terms (E, S), what it computes (evE, evS, callN) over plain data. -/
namespace Ev
open PySem

/-- a value: data, or the place of an object -/
inductive W where
  | d (x : PyData)
  | l (n : Nat)
  | x (c : Nat) (ds : List PyData)

/-- an object that may change -/
inductive Ob where
  | lst (xs : List PyData)
  | lsw (ws : List W)
  | dct (kvs : List (PyData × PyData))
  | dki (kvs : List (Int × PyData))
  | obj (c : Nat) (fs : List (Str × W))
  | dead

abbrev Hq := List Ob
inductive R (α : Type) where
  | ok (a : α) (h : Hq)
  | ex (c : Nat) (ds : List PyData) (h : Hq)
  | bad

def R.bind {α β : Type} (r : R α) (f : α → Hq → R β) : R β := match r with
  | .ok a h => f a h
  | .ex c ds h => .ex c ds h
  | .bad => .bad

theorem bind_ok {α β : Type} (a : α) (h : Hq) (f : α → Hq → R β) : (R.ok a h).bind f = f a h := rfl
theorem bind_ex {α β : Type} (c : Nat) (ds : List PyData) (h : Hq) (f : α → Hq → R β) : (R.ex c ds h : R α).bind f = .ex c ds h := rfl
theorem bind_bad {α β : Type} (f : α → Hq → R β) : (R.bad : R α).bind f = .bad := rfl

/-- built-in functions -/
inductive Bt where
  | len | tuple | int | sum | max | min | all | any | sorted | list | repr | str | max2 | min2 | listM
  deriving DecidableEq
/-- methods of built-in types -/
inductive Mt where
  | count | index | get | pop | split | join | extend
  deriving DecidableEq

/-- the classes that isinstance is asked of -/
inductive Ity where
  | int | bool | str | tuple
  deriving DecidableEq
def isaD : Ity → PyData → Bool
  | .int, .int _ => true
  | .int, .bool _ => true
  | .bool, .bool _ => true
  | .str, .str _ => true
  | .tuple, .tuple _ => true
  | _, _ => false

mutual
inductive E where
  | bad
  | dnew
  | dnewI
  | glb (x : Int)
  | glbS (x : Str)
  | glbT (xs : List Str)
  | exis (i : Nat) (cs : List Nat)
  | exfld (i : Nat) (js : List (Nat × Nat))
  | trg (t : Bool) (a : E)
  | isa (c : Ity) (a : E)
  | dlg (kvs : List (Str × Int)) (k d : E)
  | var (i : Nat)
  | lit (c : PyData)
  | tup (es : Es)
  | lst (es : Es)
  | lstM (es : Es)
  | lsw (es : Es)
  | bin (o : Operator) (a b : E)
  | binM (o : Operator) (a b : E)
  | neg (a : E)
  | nt (a : E)
  | cmp (o : CmpOp) (a b : E)
  | isN (a : E)
  | isB (n k : Bool) (a : E)
  | notN (a : E)
  | cmp2 (o p : CmpOp) (a b c : E)
  | one (a : E)
  | and (a b : E)
  | or (a b : E)
  | ife (c a b : E)
  | idx (a i : E)
  | slc (a : E) (lo hi : Oe)
  | slcM (a : E) (lo hi : Oe)
  | rev (a : E)
  | blt (f : Bt) (es : Es)
  | mth (f : Mt) (o : E) (es : Es)
  | call (f : Nat) (es : Es)
  | call0 (f : Nat)
  | fld (c : Nat) (a : E) (f : Str)
  | mcl (c f : Nat) (m : Str) (o : E) (es : Es)
  | mko (c f : Nat) (es : Es)
  | pop0 (o : E)
  | sset (a : E)
  | lc (k : Nat) (t : List Nat) (u : Bool) (it : It) (c : Oe) (e : E)
  | lc2 (t : List Nat) (u : Bool) (it : It) (t1 : List Nat) (u1 : Bool) (it1 : It) (e : E)
inductive Es where
  | nil
  | cons (e : E) (es : Es)
inductive Oe where
  | none
  | some (e : E)
inductive It where
  | e (a : E)
  | rg1 (a : E)
  | rg2 (a b : E)
  | rgd (a b : E)
end

abbrev Vars := List (Option W)

def SZ : Nat := 16777216

def allD : List W → Option (List PyData)
  | [] => some []
  | .d x :: ws => (allD ws).map (x :: ·)
  | .l _ :: _ => none
  | .x _ _ :: _ => none

/-- what a value is, read now -/
def toD (h : Hq) : W → Option PyData
  | .d x => some x
  | .x _ _ => none
  | .l n => match h[n]? with
    | some (.lst xs) => some (.list xs)
    | _ => none

def allO : List (Option PyData) → Option (List PyData)
  | [] => some []
  | none :: _ => none
  | some x :: r => (allO r).map (x :: ·)
/-- what a value is, read now, lists of lists as well -/
def toDn : Nat → Hq → W → Option PyData
  | _, _, .d x => some x
  | _, _, .x _ _ => none
  | 0, _, .l _ => none
  | k + 1, h, .l n => match h[n]? with
    | some (.lst xs) => some (.list xs)
    | some (.lsw ws) => (allO (ws.map (toDn k h))).map .list
    | _ => none
def toDD (h : Hq) (w : W) : Option PyData := toDn 3 h w

def maxI : List Int → Option Int
  | [] => none
  | x :: xs => match maxI xs with
    | none => some x
    | some m => some (if m < x then x else m)
def minI : List Int → Option Int
  | [] => none
  | x :: xs => match minI xs with
    | none => some x
    | some m => some (if x < m then x else m)
def liftO (o : Option PyData) (h : Hq) : R W := match o with
  | some x => .ok (.d x) h
  | none => .bad
def opM (f : PyData → PyData → Option PyData) (a b : W) (h : Hq) : R W := match toD h a, toD h b with
  | some d, some e => match f d e with
    | some (.list xs) => .ok (.l h.length) (h ++ [.lst xs])
    | _ => .bad
  | _, _ => .bad
def op2 (f : PyData → PyData → Option PyData) (a b : W) (h : Hq) : R W := match toD h a, toD h b with
  | some x, some y => liftO (f x y) h
  | _, _ => .bad

def sOk (i j : Int) : Bool := decide ((-(2 ^ 64) < i ∧ i < 2 ^ 64) ∨ (-(2 ^ 64) < j ∧ j < 2 ^ 64))
def divOk (j : Int) : Bool := decide (j ≠ 0 ∧ j.natAbs < 1073741824)
def powOk (i j : Int) : Bool := decide (0 ≤ j ∧ j ≤ 1000000 ∧ i.natAbs < 2 ^ 64)
def repOk (n : Nat) (k : Int) : Bool := decide (-(2 ^ 62) ≤ k ∧ k < 2 ^ 62 ∧ n * k.toNat ≤ SZ)
def repTOk (n : Nat) (k : Int) : Bool := decide (n ≤ 1000 ∧ -(2 ^ 62) ≤ k ∧ k ≤ 1000)
def repL {α : Type} (xs : List α) (k : Int) : List α := (List.replicate k.toNat xs).flatten

/-- a text, some times -/
def repS (x : Str) (k : Int) : Str := if k < 1 then Str.empty else if (k == 1 || x.length == 0) = true then x else ⟨(List.replicate k.toNat x.cps).foldl (· ++ ·) #[]⟩
def evBin : Operator → PyData → PyData → Option PyData
  | .Add, .int i, .int j => some (.int (i + j))
  | .Add, .str x, .str y => if x.length + y.length ≤ SZ then some (.str (x ++ y)) else none
  | .Add, .list x, .list y => if x.length + y.length ≤ SZ then some (.list (x ++ y)) else none
  | .Add, .tuple x, .tuple y => if x.length + y.length ≤ SZ then some (.tuple (x ++ y)) else none
  | .Sub, .int i, .int j => some (.int (i - j))
  | .Mult, .int i, .int j => if sOk i j then some (.int (i * j)) else none
  | .Mult, .list x, .int k => if repOk x.length k then some (.list (repL x k)) else none
  | .Mult, .str x, .int k => if repOk x.length k then some (.str (repS x k)) else none
  | .Mult, .tuple x, .int k => if repTOk x.length k then some (.tuple (repL x k)) else none
  | .FloorDiv, .int i, .int j => if divOk j then some (.int (i.fdiv j)) else none
  | .Mod, .int i, .int j => if j ≠ 0 then some (.int (i.fmod j)) else none
  | .Pow, .int i, .int j => if powOk i j then some (.int (i ^ j.toNat)) else none
  | .LShift, .int i, .int j => if powOk i j then some (.int (i * 2 ^ j.toNat)) else none
  | _, _, _ => none

def dpt (d : PyData) : Bool := decide (d.depth ≤ 150)

def evCmp : CmpOp → PyData → PyData → Option PyData
  | .Lt, .int i, .int j => some (.bool (decide (i < j)))
  | .LtE, .int i, .int j => some (.bool (decide (i ≤ j)))
  | .Gt, .int i, .int j => some (.bool (decide (j < i)))
  | .GtE, .int i, .int j => some (.bool (decide (j ≤ i)))
  | .Lt, .tuple xs, .tuple ys => if PySem.W.alike (.tuple xs) (.tuple ys) && dpt (.tuple xs) then some (.bool (PySem.W.dataLt (.tuple xs) (.tuple ys))) else none
  | .LtE, .tuple xs, .tuple ys => if PySem.W.alike (.tuple xs) (.tuple ys) && dpt (.tuple xs) then some (.bool (!PySem.W.dataLt (.tuple ys) (.tuple xs))) else none
  | .Gt, .tuple xs, .tuple ys => if PySem.W.alike (.tuple xs) (.tuple ys) && dpt (.tuple xs) then some (.bool (PySem.W.dataLt (.tuple ys) (.tuple xs))) else none
  | .GtE, .tuple xs, .tuple ys => if PySem.W.alike (.tuple xs) (.tuple ys) && dpt (.tuple xs) then some (.bool (!PySem.W.dataLt (.tuple xs) (.tuple ys))) else none
  | .In, .str x, .str y => if x.length = 1 then some (.bool (y.cps.contains (x.cps.getD 0 0))) else none
  | .NotIn, .str x, .str y => if x.length = 1 then some (.bool (!y.cps.contains (x.cps.getD 0 0))) else none
  | .Eq, x, y => if dpt x || dpt y then some (.bool (PyData.eqv x y)) else none
  | .NotEq, x, y => if dpt x || dpt y then some (.bool (!PyData.eqv x y)) else none
  | .In, x, .list ys => if dpt x then some (.bool (ys.any fun y => PyData.eqv y x)) else none
  | .In, x, .tuple ys => if dpt x then some (.bool (ys.any fun y => PyData.eqv y x)) else none
  | .NotIn, x, .list ys => if dpt x then some (.bool (!ys.any fun y => PyData.eqv y x)) else none
  | .NotIn, x, .tuple ys => if dpt x then some (.bool (!ys.any fun y => PyData.eqv y x)) else none
  | _, _, _ => none

/-! dicts: their keys -/
mutual
def nkey : PyData → Option NestedKey
  | .none => some .none
  | .bool b => some (.num (if b = true then 1 else 0))
  | .int i => some (.num i)
  | .str x => some (.text x)
  | .tuple xs => (nkeys xs).map .tup
  | .list _ => none
  | .dict _ => none
def nkeys : List PyData → Option (List NestedKey)
  | [] => some []
  | x :: xs => match nkey x, nkeys xs with
    | some k, some ks => some (k :: ks)
    | _, _ => none
end
/-- a tuple that may be a key -/
def isKey : PyData → Bool
  | .tuple xs => (nkey (.tuple xs)).isSome && decide (PyData.depth (.tuple xs) ≤ 8)
  | _ => false
def keyEq (a b : PyData) : Bool := decide (nkey a = nkey b)
def dget (kvs : List (PyData × PyData)) (k : PyData) : Option PyData := (kvs.find? fun p => keyEq p.1 k).map (·.2)
def dput (kvs : List (PyData × PyData)) (k v : PyData) : List (PyData × PyData) := if (dget kvs k).isSome then kvs.map fun p => if keyEq p.1 k then (p.1, v) else p else kvs ++ [(k, v)]
def dctOf (h : Hq) : W → Option (List (PyData × PyData))
  | .l n => match h[n]? with
    | some (.dct kvs) => some kvs
    | _ => none
  | _ => none
/-! dicts whose keys are ints -/
def iget (kvs : List (Int × PyData)) (k : Int) : Option PyData := (kvs.find? fun p => decide (p.1 = k)).map (·.2)
def iput (kvs : List (Int × PyData)) (k : Int) (v : PyData) : List (Int × PyData) := if (iget kvs k).isSome then kvs.map fun p => if p.1 = k then (p.1, v) else p else kvs ++ [(k, v)]
def dkiOf (h : Hq) : W → Option (List (Int × PyData))
  | .l n => match h[n]? with
    | some (.dki kvs) => some kvs
    | _ => none
  | _ => none
def cmpI (o : CmpOp) (v w : W) (h : Hq) : R W := match dkiOf h w with
  | some kvs => match o, v with
    | .In, .d (.int k) => .ok (.d (.bool (iget kvs k).isSome)) h
    | .NotIn, .d (.int k) => .ok (.d (.bool (!(iget kvs k).isSome))) h
    | _, _ => .bad
  | none => .bad
/-- data of one kind, in order -/
def notNo : PyData → Bool
  | .none => false
  | _ => true
def alk (x y : PyData) : Bool := PySem.W.alike x y && notNo x && dpt x

/-- a comparison of two values -/
def cmpW (o : CmpOp) (v w : W) (h : Hq) : R W := match dctOf h w with
  | some kvs => match o, v with
    | .In, .d k => if isKey k then .ok (.d (.bool (dget kvs k).isSome)) h else .bad
    | .NotIn, .d k => if isKey k then .ok (.d (.bool (!(dget kvs k).isSome))) h else .bad
    | _, _ => .bad
  | none => match toDD h v, toDD h w with
    | some x, some y => liftO (evCmp o x y) h
    | _, _ => cmpI o v w h

/-- the place that an index of any sign means -/
def atZ {α : Type} (xs : List α) (i : Int) : Option α := L2.atI xs i
def cutL {α : Type} (xs : List α) (lo hi : Option Int) : List α := (xs.drop (HT.sIx xs.length 0 lo)).take (HT.sIx xs.length xs.length hi - HT.sIx xs.length 0 lo)

def evIdx (h : Hq) (a i : W) : R W := match a, i with
  | .d (.list xs), .d (.int k) => liftO (atZ xs k) h
  | .d (.tuple xs), .d (.int k) => liftO (atZ xs k) h
  | .d (.str s), .d (.int k) => if s.length ≤ SZ then match atZ s.cps.toList k with
    | some c => .ok (.d (.str ⟨#[c]⟩)) h
    | none => .bad
    else .bad
  | .l n, .d (.int k) => match h[n]? with
    | some (.lst xs) => liftO (atZ xs k) h
    | some (.lsw ws) => match atZ ws k with
      | some w => .ok w h
      | none => .bad
    | some (.dki kvs) => liftO (iget kvs k) h
    | _ => .bad
  | .l n, .d k => match h[n]? with
    | some (.dct kvs) => if isKey k then liftO (dget kvs k) h else .bad
    | _ => .bad
  | _, _ => .bad

def intO (w : Option W) : Option (Option Int) := match w with
  | none => some none
  | some (.d (.int i)) => some (some i)
  | _ => none
def evSlc (h : Hq) (a : W) (l u : Option Int) : R W := match toD h a with
  | some (.list xs) => .ok (.d (.list (cutL xs l u))) h
  | some (.tuple xs) => .ok (.d (.tuple (cutL xs l u))) h
  | some (.str z) => if z.length ≤ SZ then .ok (.d (.str (L2.cutS z l u))) h else .bad
  | _ => .bad
def evSlcM (h : Hq) (a : W) (l u : Option Int) : R W := match toD h a with
  | some (.list xs) => .ok (.l h.length) (h ++ [.lst (cutL xs l u)])
  | _ => .bad
def evRev (h : Hq) (a : W) : R W := match toD h a with
  | some (.list xs) => .ok (.d (.list xs.reverse)) h
  | some (.tuple xs) => .ok (.d (.tuple xs.reverse)) h
  | _ => .bad

def intsOf : List PyData → Option (List Int)
  | [] => some []
  | .int i :: xs => (intsOf xs).map (i :: ·)
  | _ => none
def boolsOf : List PyData → Option (List Bool)
  | [] => some []
  | .bool i :: xs => (boolsOf xs).map (i :: ·)
  | _ => none
def sortI (ns : List Int) : List Int := ns.mergeSort (fun a b => decide (a ≤ b))

def insU (x : Int) : List Int → List Int
  | [] => [x]
  | y :: ys => if x < y then x :: y :: ys else if x = y then y :: ys else y :: insU x ys
/-- the members, ascending, each once -/
def sortU (ns : List Int) : List Int := ns.foldr insU []
def listInts : PyData → Option (List Int)
  | .list xs => intsOf xs
  | _ => none
/-- what sum takes -/
def sumInts : PyData → Option (List Int)
  | .list xs => listInts (.list xs)
  | .tuple xs => listInts (.list xs)
  | _ => none
def evLen (h : Hq) : W → Option Nat
  | .d (.list xs) => some xs.length
  | .d (.tuple xs) => some xs.length
  | .d (.str s) => if s.length ≤ SZ then some s.length else none
  | .l n => match h[n]? with
    | some (.lst xs) => some xs.length
    | some (.lsw xs) => some xs.length
    | _ => none
  | _ => none

/-- a list or a tuple, its items -/
def seqOf : PyData → Option (List PyData)
  | .list xs => some xs
  | .tuple xs => some xs
  | _ => none

/-- all of one kind -/
def alkAll (xs : List PyData) : Bool := xs.all fun x => notNo x && xs.all fun y => PySem.W.alike x y
def dptAll (xs : List PyData) : Bool := decide (PyData.depthAll xs ≤ 150)
def maxP (xs : List PyData) : Option PyData := match intsOf xs with
  | some ns => (maxI ns).map .int
  | none => match xs with
    | [] => none
    | x :: r => if alkAll (x :: r) && dptAll (x :: r) then some (PySem.W.maxD x r) else none
def minP (xs : List PyData) : Option PyData := match intsOf xs with
  | some ns => (minI ns).map .int
  | none => match xs with
    | [] => none
    | x :: r => if alkAll (x :: r) && dptAll (x :: r) then some (PySem.W.minD x r) else none
/-- tuples with an item at least, or none of them a tuple -/
def srtAll (xs : List PyData) : Bool := (xs.all fun x => match x with
  | .tuple (_ :: _) => true
  | _ => false) || (xs.all fun x => match x with
  | .tuple _ => false
  | .none => false
  | _ => true)
def sortD (xs : List PyData) : List PyData := xs.mergeSort (PySem.W.dataLe false id)
def sortP (xs : List PyData) : Option (List PyData) := match intsOf xs with
  | some ns => some ((sortI ns).map .int)
  | none => if alkAll xs && srtAll xs && dptAll xs then some (sortD xs) else none
def listOf : PyData → Option (List PyData)
  | .list xs => some xs
  | _ => none
/-- a text that is shown as a whole -/
def shownP (d : PyData) : Option PyData := if d.showable && (dpt d && decide (d.shown.length ≤ SZ)) then some (.str d.shown) else none
def listBools : PyData → Option (List Bool)
  | .list xs => boolsOf xs
  | _ => none
/-- sorted(d), d a dict whose keys are tuples -/
def evSortK (ks : List PyData) (h : Hq) : R W := if alkAll ks && srtAll ks && dptAll ks then .ok (.d (.list (sortD ks))) h else .bad
def evSort (w : W) (h : Hq) : R W := liftO ((((toD h w).bind seqOf).bind sortP).map .list) h
/-- lists in a list -/
def listsOf : List PyData → Option (List (List PyData))
  | [] => some []
  | .list xs :: r => (listsOf r).map (xs :: ·)
  | _ => none
/-- sum(lists, []) -/
def evSum2 (w : W) (h : Hq) : R W := match ((toD h w).bind listOf).bind listsOf with
  | some xss => if xss.flatten.length ≤ SZ then .ok (.d (.list xss.flatten)) h else .bad
  | none => .bad
/-- texts in a list -/
def textsOf : List PyData → Option (List Str)
  | [] => some []
  | .str x :: r => (textsOf r).map (x :: ·)
  | _ => none
/-- x.split(sep), sep one sign -/
def splD (a b : Str) : List PyData := (TL.spl b.cps.toList 0 [] a.cps.toList).map fun l => PyData.str ⟨l.toArray⟩
def evSpl (w : W) (b : Str) (h : Hq) : R W := match w with
  | .d (.str a) => if b.cps.toList.length = 1 ∧ (b.cps.toList.all (· < 256)) = true ∧ a.length + 2 ≤ SZ then .ok (.d (.list (splD a b))) h else .bad
  | _ => .bad
def evJoi (w l : W) (h : Hq) : R W := match w with
  | .d (.str a) => match ((toD h l).bind seqOf).bind textsOf with
    | some ys => if (ys.map (·.length)).sum + ys.length * a.length ≤ SZ then .ok (.d (.str (Txt.join a ys))) h else .bad
    | none => .bad
  | _ => .bad
/-- a list's item, taken off -/
def evPopi (w : W) (i : Int) (h : Hq) : R W := match w with
  | .l n => match h[n]? with
    | some (.lst xs) => if 0 ≤ i ∧ i < 1000000 then match xs[i.toNat]? with
      | some x => .ok (.d x) (h.set n (.lst (xs.eraseIdx i.toNat)))
      | none => .bad
      else .bad
    | _ => .bad
  | _ => .bad
def isS : W → Bool
  | .d (.str _) => true
  | _ => false
def isL (h : Hq) : W → Bool
  | .l n => match h[n]? with
    | some (.lst _) => true
    | _ => false
  | _ => false
def evB (f : Bt) (ws : List W) (h : Hq) : R W := match f, ws with
  | .len, [w] => match evLen h w with
    | some n => .ok (.d (.int n)) h
    | none => .bad
  | .tuple, [w] => liftO (((toD h w).bind seqOf).map .tuple) h
  | .list, [w] => liftO (((toD h w).bind seqOf).map .list) h
  | .listM, [w] => match (toD h w).bind seqOf with
    | some xs => .ok (.l h.length) (h ++ [.lst xs])
    | none => .bad
  | .int, [.d (.int i)] => .ok (.d (.int i)) h
  | .int, [.d (.bool b)] => .ok (.d (.int (if b then 1 else 0))) h
  | .int, [.d (.str a)] => match intText? a with
    | some n => if a.length ≤ 640 then .ok (.d (.int n)) h else .bad
    | none => .bad
  | .str, [.d (.int i)] => if i.natAbs.log2 < 1920 then .ok (.d (.str (toString i))) h else .bad
  | .str, [.d (.str a)] => .ok (.d (.str a)) h
  | .sum, [w] => liftO (((toD h w).bind sumInts).map fun ns => .int ns.sum) h
  | .sum, [w, .d (.list [])] => evSum2 w h
  | .sorted, [w] => match dctOf h w with
    | some kvs => evSortK (kvs.map (·.1)) h
    | none => evSort w h
  | .max, [w] => liftO (((toD h w).bind seqOf).bind maxP) h
  | .min, [w] => liftO (((toD h w).bind seqOf).bind minP) h
  | .repr, [w] => liftO ((toDD h w).bind shownP) h
  | .max, [.d (.int i), .d (.int j)] => .ok (.d (.int (if j > i then j else i))) h
  | .min, [.d (.int i), .d (.int j)] => .ok (.d (.int (if j < i then j else i))) h
  | .all, [w] => liftO (((toD h w).bind listBools).map fun bs => .bool (bs.all id)) h
  | .any, [w] => liftO (((toD h w).bind listBools).map fun bs => .bool (bs.any id)) h
  | _, _ => .bad

/-- what stands ahead of the method's name is right, ahead of the arguments -/
def isLst (h : Hq) (w : W) : Bool := match toDD h w with
  | some (.list _) => true
  | _ => false
def recv (f : Mt) (h : Hq) (w : W) : Bool := match f with
  | .count => isLst h w
  | .index => isLst h w
  | .get => (dctOf h w).isSome
  | .pop => isL h w
  | .split => isS w
  | .join => isS w
  | .extend => false
def evM (f : Mt) (w : W) (ws : List W) (h : Hq) : R W := match f, ws with
  | .count, [.d x] => match toD h w with
    | some (.list ys) => if dpt x then .ok (.d (.int (ys.countP fun y => PyData.eqv y x : Nat))) h else .bad
    | _ => .bad
  | .index, [.d x] => match toDD h w with
    | some (.list ys) => if dpt x then match ys.findIdx? fun y => PyData.eqv y x with
      | some j => .ok (.d (.int (j : Nat))) h
      | none => .bad
      else .bad
    | _ => .bad
  | .get, [.d k, v] => match dctOf h w with
    | some kvs => if isKey k then match dget kvs k with
      | some x => .ok (.d x) h
      | none => .ok v h
      else .bad
    | none => .bad
  | .split, [.d (.str b)] => evSpl w b h
  | .join, [l] => evJoi w l h
  | .pop, [.d (.int i)] => evPopi w i h
  | _, _ => .bad

def setAll : List Nat → List W → Vars → Vars
  | i :: is, w :: ws, env => setAll is ws (env.set i (some w))
  | _, _, env => env
/-- the targets of a loop's turn: one slot, or the slots that a tuple's items go to -/
def bindT (t : List Nat) (u : Bool) (w : W) (env : Vars) : Option Vars := match u with
  | false => match t with
    | [i] => some (env.set i (some w))
    | _ => none
  | true => match w with
    | .d (.tuple xs) => if xs.length = t.length then some (setAll t (xs.map .d) env) else none
    | .d (.list xs) => if xs.length = t.length then some (setAll t (xs.map .d) env) else none
    | _ => none

def rangeUp (lo hi : Int) : List W := (List.range (hi - lo).toNat).map fun (i : Nat) => W.d (.int (lo + i))
def rangeDn (hi lo : Int) : List W := (List.range (hi - lo).toNat).map fun (i : Nat) => W.d (.int (hi - i))
def rgOk (lo hi : Int) : Bool := decide (-(2 ^ 61) ≤ lo ∧ lo < 2 ^ 61 ∧ -(2 ^ 61) ≤ hi ∧ hi < 2 ^ 61 ∧ hi - lo ≤ 16777216)
/-- the items that are walked -/
def itemsOf (h : Hq) : W → Option (List W)
  | .d (.list xs) => some (xs.map .d)
  | .d (.tuple xs) => some (xs.map .d)
  | .d (.str s) => if s.length ≤ SZ then some (s.cps.toList.map fun c => .d (.str ⟨#[c]⟩)) else none
  | .l n => match h[n]? with
    | some (.lst xs) => some (xs.map .d)
    | some (.lsw ws) => some ws
    | _ => none
  | _ => none
/-- the place that must stay as it is while its items are walked -/
def liveW : W → Option Nat
  | .d _ => none
  | .x _ _ => none
  | .l n => some n
/-! objects of own classes -/
def putW (f : Str) (w : W) : List (Str × W) → List (Str × W)
  | [] => [(f, w)]
  | (g, x) :: r => if g = f then (g, w) :: r else (g, x) :: putW f w r
/-- an object of the class c, its attributes -/
def objOf (h : Hq) (c : Nat) : W → Option (Nat × List (Str × W))
  | .l n => match h[n]? with
    | some (.obj c' fs) => if c' = c then some (n, fs) else none
    | _ => none
  | _ => none
def evFld (c : Nat) (f : Str) (w : W) (h : Hq) : R W := match objOf h c w with
  | some (_, fs) => match fs.lookup f with
    | some v => .ok v h
    | none => .bad
  | none => .bad
/-- an object whose method m is its class's -/
def hasM (c : Nat) (m : Str) (w : W) (h : Hq) : Bool := match objOf h c w with
  | some (_, fs) => (fs.lookup m).isNone
  | none => false
def evFst (b c : Nat) (f : Str) (w v : W) (h : Hq) : R Unit := match objOf h c w with
  | some (n, fs) => if fs.length < 900 then match v with
    | .d _ => .ok () (h.set n (.obj c (putW f v fs)))
    | .l _ => if b ≤ n then .ok () (h.set n (.obj c (putW f v fs))) else .bad
    | .x _ _ => .bad
    else .bad
  | none => .bad
/-- a list's last item, taken off -/
def evPop (w : W) (h : Hq) : R W := match w with
  | .l n => match h[n]? with
    | some (.lst xs) => match xs[xs.length - 1]? with
      | some x => .ok (.d x) (h.set n (.lst xs.dropLast))
      | none => .bad
    | _ => .bad
  | _ => .bad
open Classical in
noncomputable def kpt {α : Type} (q : Option Nat) (h : Hq) (r : R α) : R α := match q with
  | none => r
  | some n => r.bind fun a h' => if h'[n]? = h[n]? then .ok a h' else .bad

def lcGo (f : W → Hq → R (Option W)) : List W → Hq → R (List W)
  | [], h => .ok [] h
  | w :: ws, h => (f w h).bind fun o h => (lcGo f ws h).bind fun rs h => match o with
    | some r => .ok (r :: rs) h
    | none => .ok rs h
/-- the same, each turn gives a row -/
def lcGoL (f : W → Hq → R (List W)) : List W → Hq → R (List W)
  | [], h => .ok [] h
  | w :: ws, h => (f w h).bind fun r h => (lcGoL f ws h).bind fun rs h => .ok (r ++ rs) h
/-- slots that are not told any more -/
def clrV : List Nat → Vars → Vars
  | [], env => env
  | i :: is, env => (clrV is env).set i none
def noEx {α : Type} : R α → R α
  | .ex _ _ _ => .bad
  | r => r
def lcEnd (k : Nat) (ws : List W) (h : Hq) : R W := match k with
  | 0 => match allD ws with
    | some ds => .ok (.d (.list ds)) h
    | none => .bad
  | 1 => match allD ws with
    | some ds => .ok (.l h.length) (h ++ [.lst ds])
    | none => .bad
  | _ => .ok (.l h.length) (h ++ [.lsw ws])

def boolO : Option W → Option Bool
  | none => some true
  | some (.d (.bool k)) => some k
  | _ => none
abbrev CallF := Nat → Nat → List W → Hq → R W

/-- a written dict's answer -/
def dlook (kvs : List (Str × Int)) (s : Str) : Option Int := kvs.foldl (fun acc p => if s = p.1 then some p.2 else acc) none
mutual
noncomputable def evE (b : Nat) (C : CallF) : E → Vars → Hq → R W
  | .bad, _, _ => .bad
  | .dnew, _, h => .ok (.l h.length) (h ++ [.dct []])
  | .dnewI, _, h => .ok (.l h.length) (h ++ [.dki []])
  | .glb x, _, h => .ok (.d (.int x)) h
  | .glbS x, _, h => .ok (.d (.str x)) h
  | .glbT xs, _, h => .ok (.d (.tuple (xs.map .str))) h
  | .exis i cs, env, h => match env[i]? with
    | some (some (.x c _)) => .ok (.d (.bool (cs.contains c))) h
    | _ => .bad
  | .exfld i js, env, h => match env[i]? with
    | some (some (.x c ds)) => match (js.lookup c).bind (ds[·]?) with
      | some d => .ok (.d d) h
      | none => .bad
    | _ => .bad
  | .trg t a, env, h => (evE b C a env h).bind fun w h => match w with
    | .d (.int n) => if rgOk 0 n then .ok (.d ((if t then PyData.tuple else PyData.list) ((List.range n.toNat).map fun i => .int (i : Nat)))) h else .bad
    | _ => .bad
  | .isa c a, env, h => (evE b C a env h).bind fun w h => match toD h w with
    | some x => .ok (.d (.bool (isaD c x))) h
    | none => .bad
  | .dlg kvs k d, env, h => (evE b C k env h).bind fun v h => (evE b C d env h).bind fun w h => match v with
    | .d (.str s) => .ok (match dlook kvs s with
      | some i => .d (.int i)
      | none => w) h
    | _ => .bad
  | .var i, env, h => match env[i]? with
    | some (some w) => .ok w h
    | _ => .bad
  | .lit c, _, h => .ok (.d c) h
  | .tup es, env, h => (evEs b C es env h).bind fun ws h => match allD ws with
    | some ds => .ok (.d (.tuple ds)) h
    | none => .bad
  | .lst es, env, h => (evEs b C es env h).bind fun ws h => match allD ws with
    | some ds => .ok (.d (.list ds)) h
    | none => .bad
  | .lstM es, env, h => (evEs b C es env h).bind fun ws h => match allD ws with
    | some ds => .ok (.l h.length) (h ++ [.lst ds])
    | none => .bad
  | .lsw es, env, h => (evEs b C es env h).bind fun ws h => .ok (.l h.length) (h ++ [.lsw ws])
  | .bin o x y, env, h => (evE b C x env h).bind fun v h => (evE b C y env h).bind fun w h => op2 (evBin o) v w h
  | .binM o x y, env, h => (evE b C x env h).bind fun v h => (evE b C y env h).bind fun w h => opM (evBin o) v w h
  | .neg x, env, h => (evE b C x env h).bind fun v h => match v with
    | .d (.int i) => .ok (.d (.int (-i))) h
    | _ => .bad
  | .nt x, env, h => (evE b C x env h).bind fun v h => match v with
    | .d (.bool k) => .ok (.d (.bool (!k))) h
    | _ => .bad
  | .cmp o x y, env, h => (evE b C x env h).bind fun v h => (evE b C y env h).bind fun w h => cmpW o v w h
  | .isN x, env, h => (evE b C x env h).bind fun v h => match v with
    | .d .none => .ok (.d (.bool true)) h
    | _ => .ok (.d (.bool false)) h
  | .isB n k x, env, h => (evE b C x env h).bind fun v h => match v with
    | .d (.bool j) => .ok (.d (.bool (xor n (j == k)))) h
    | _ => .bad
  | .notN x, env, h => (evE b C x env h).bind fun v h => match v with
    | .d .none => .ok (.d (.bool false)) h
    | _ => .ok (.d (.bool true)) h
  | .cmp2 o p x y z, env, h => (evE b C x env h).bind fun v h => (evE b C y env h).bind fun w h => (cmpW o v w h).bind fun k h => match k with
    | .d (.bool true) => (evE b C z env h).bind fun u h => cmpW p w u h
    | .d (.bool false) => .ok (.d (.bool false)) h
    | _ => .bad
  | .one x, env, h => evE b C x env h
  | .and x y, env, h => (evE b C x env h).bind fun v h => match v with
    | .d (.bool true) => evE b C y env h
    | .d (.bool false) => .ok (.d (.bool false)) h
    | _ => .bad
  | .or x y, env, h => (evE b C x env h).bind fun v h => match v with
    | .d (.bool true) => .ok (.d (.bool true)) h
    | .d (.bool false) => evE b C y env h
    | _ => .bad
  | .ife c x y, env, h => (evE b C c env h).bind fun v h => match v with
    | .d (.bool true) => evE b C x env h
    | .d (.bool false) => evE b C y env h
    | _ => .bad
  | .idx x i, env, h => (evE b C x env h).bind fun v h => (evE b C i env h).bind fun w h => evIdx h v w
  | .rev x, env, h => (evE b C x env h).bind fun v h => evRev h v
  | .slc x lo hi, env, h => (evE b C x env h).bind fun v h => (evOe b C lo env h).bind fun l h => match intO l with
    | some l => (evOe b C hi env h).bind fun u h => match intO u with
      | some u => evSlc h v l u
      | none => .bad
    | none => .bad
  | .slcM x lo hi, env, h => (evE b C x env h).bind fun v h => (evOe b C lo env h).bind fun l h => match intO l with
    | some l => (evOe b C hi env h).bind fun u h => match intO u with
      | some u => evSlcM h v l u
      | none => .bad
    | none => .bad
  | .blt f es, env, h => (evEs b C es env h).bind fun ws h => evB f ws h
  | .mth f o es, env, h => (evE b C o env h).bind fun w h => if recv f h w then (evEs b C es env h).bind fun ws h => evM f w ws h else .bad
  | .sset x, env, h => (evE b C x env h).bind fun v h => match (toD h v).bind listInts with
    | some ns => if ns.length < 60 then .ok (.d (.list ((sortU ns).map .int))) h else .bad
    | none => .bad
  | .call f es, env, h => (evEs b C es env h).bind fun ws h => C b f ws h
  | .call0 f, env, h => C b f [] h
  | .fld c a f, env, h => (evE b C a env h).bind fun w h => evFld c f w h
  | .mcl c f m o es, env, h => (evE b C o env h).bind fun w h => if hasM c m w h then (evEs b C es env h).bind fun ws h => C b f (w :: ws) h else .bad
  | .mko c f es, env, h => (evEs b C es env h).bind fun ws h => (C b f (.l h.length :: ws) (h ++ [.obj c []])).bind fun v h' => match v with
    | .d .none => .ok (.l h.length) h'
    | _ => .bad
  | .pop0 o, env, h => (evE b C o env h).bind fun w h => evPop w h
  | .lc k t u it c e, env, h => (evIt b C it env h).bind fun ws h => (noEx (lcGo (fun w h => kpt ws.2 h (match bindT t u w env with
      | some env => (evOe b C c env h).bind fun q h => match boolO q with
        | some true => (evE b C e env h).bind fun r h => .ok (some r) h
        | some false => .ok none h
        | none => .bad
      | none => .bad)) ws.1 h)).bind fun rs h => lcEnd k rs h
  | .lc2 t u it t1 u1 it1 e, env, h => (evIt b C it env h).bind fun ws h => (noEx (lcGoL (fun w h => kpt ws.2 h (match bindT t u w (clrV t1 env) with
      | some env => (evIt b C it1 env h).bind fun vs h => lcGo (fun w h => kpt vs.2 h (match bindT t1 u1 w env with
        | some env => (evE b C e env h).bind fun r h => .ok (some r) h
        | none => .bad)) vs.1 h
      | none => .bad)) ws.1 h)).bind fun rs h => if rs.length ≤ SZ then lcEnd 0 rs h else .bad
noncomputable def evEs (b : Nat) (C : CallF) : Es → Vars → Hq → R (List W)
  | .nil, _, h => .ok [] h
  | .cons e es, env, h => (evE b C e env h).bind fun w h => (evEs b C es env h).bind fun ws h => .ok (w :: ws) h
noncomputable def evOe (b : Nat) (C : CallF) : Oe → Vars → Hq → R (Option W)
  | .none, _, h => .ok none h
  | .some e, env, h => (evE b C e env h).bind fun w h => .ok (some w) h
noncomputable def evIt (b : Nat) (C : CallF) : It → Vars → Hq → R (List W × Option Nat)
  | .e a, env, h => (evE b C a env h).bind fun w h => match itemsOf h w with
    | some ws => .ok (ws, liveW w) h
    | none => .bad
  | .rg1 a, env, h => (evE b C a env h).bind fun w h => match w with
    | .d (.int n) => if rgOk 0 n then .ok (rangeUp 0 n, none) h else .bad
    | _ => .bad
  | .rg2 a c, env, h => (evE b C a env h).bind fun w h => (evE b C c env h).bind fun v h => match w, v with
    | .d (.int n), .d (.int k) => if rgOk n k then .ok (rangeUp n k, none) h else .bad
    | _, _ => .bad
  | .rgd a c, env, h => (evE b C a env h).bind fun w h => (evE b C c env h).bind fun v h => match w, v with
    | .d (.int n), .d (.int k) => if rgOk k n then .ok (rangeDn n k, none) h else .bad
    | _, _ => .bad
end

/-! ### statements -/
inductive Fl where
  | nx (env : Vars)
  | rt (w : W)
  | bk (env : Vars)
  | ct (env : Vars)

/-- the text that an exception's __init__ hands on: a text, str of a parameter, a parameter, two of them -/
inductive Mg where
  | c (s : Str)
  | st (i : Nat)
  | v (i : Nat)
  | ad (a b : Mg)
def Mg.same : Mg → Mg → Bool
  | .c s, .c t => decide (s = t)
  | .st i, .st j => decide (i = j)
  | .v i, .v j => decide (i = j)
  | .ad x y, .ad z w => x.same z && y.same w
  | _, _ => false
def evMg : Mg → List PyData → Option Str
  | .c s, _ => some s
  | .st i, ds => match ds[i]? with
    | some (.int k) => if k.natAbs.log2 < 1920 then some (Str.ofString (toString k)) else none
    | _ => none
  | .v i, ds => match ds[i]? with
    | some (.str s) => some s
    | _ => none
  | .ad a b, ds => match evMg a ds, evMg b ds with
    | some x, some y => if x.length + y.length ≤ SZ then some (x ++ y) else none
    | _, _ => none
mutual
inductive S where
  | bad
  | asg (t : List Nat) (u : Bool) (e : E)
  | set (o i e : E)
  | app (o e : E)
  | expr (e : E)
  | ret (e : E)
  | retN
  | ifs (c : E) (a b : Ss)
  | forS (t : List Nat) (u : Bool) (it : It) (b : Ss)
  | whl (n : Nat) (c : E) (b : Ss)
  | pass | brk | cnt
  | fst (c : Nat) (o : E) (f : Str) (e : E)
  | rais (c : Nat) (es : Es)
  | raism (c : Nat) (g : Mg) (k : Nat) (es : Es)
  | tryS (cs : List Nat) (nm : Option Nat) (kp : List Nat) (body suite : Ss)
  | frz (i : Nat)
inductive Ss where
  | nil
  | cons (s : S) (ss : Ss)
end

def forGo (f : W → Vars → Hq → R Fl) : List W → Vars → Hq → R Fl
  | [], env, h => .ok (.nx env) h
  | w :: ws, env, h => (f w env h).bind fun q h => match q with
    | .nx env => forGo f ws env h
    | .ct env => forGo f ws env h
    | .bk env => .ok (.nx env) h
    | .rt v => .ok (.rt v) h
def whlGo (c : Vars → Hq → R W) (f : Vars → Hq → R Fl) : Nat → Vars → Hq → R Fl
  | 0, _, _ => .bad
  | n + 1, env, h => (c env h).bind fun v h => match v with
    | .d (.bool false) => .ok (.nx env) h
    | .d (.bool true) => (f env h).bind fun q h => match q with
      | .nx env => whlGo c f n env h
      | .ct env => whlGo c f n env h
      | .bk env => .ok (.nx env) h
      | .rt v => .ok (.rt v) h
    | _ => .bad

/-- o[i] = v -/
def evSet (b : Nat) (o i v : W) (h : Hq) : R Unit := match o, i with
  | .l n, .d (.int k) => match h[n]? with
    | some (.lst xs) => match L2.ixN xs.length k, v with
      | some j, .d x => .ok () (h.set n (.lst (xs.set j x)))
      | _, _ => .bad
    | some (.lsw ws) => match L2.ixN ws.length k with
      | some j => match v with
        | .d x => .ok () (h.set n (.lsw (ws.set j v)))
        | .l _ => if b ≤ n then .ok () (h.set n (.lsw (ws.set j v))) else .bad
        | .x _ _ => .bad
      | none => .bad
    | some (.dki kvs) => match v with
      | .d x => if kvs.length < 1000000 then .ok () (h.set n (.dki (iput kvs k x))) else .bad
      | _ => .bad
    | _ => .bad
  | .l n, .d k => match h[n]? with
    | some (.dct kvs) => match v with
      | .d x => if isKey k && decide (kvs.length < 1000000) then .ok () (h.set n (.dct (dput kvs k x))) else .bad
      | _ => .bad
    | _ => .bad
  | _, _ => .bad
/-- a list that may change -/
def recvL (h : Hq) (w : W) : Bool := match w with
  | .l n => match h[n]? with
    | some (.lst _) => true
    | some (.lsw _) => true
    | _ => false
  | _ => false
/-- o.append(v) -/
def evApp (b : Nat) (o v : W) (h : Hq) : R Unit := match o with
  | .l n => match h[n]? with
    | some (.lst xs) => match v with
      | .d x => if xs.length < SZ then .ok () (h.set n (.lst (xs ++ [x]))) else .bad
      | _ => .bad
    | some (.lsw ws) => match v with
      | .d x => if ws.length < SZ then .ok () (h.set n (.lsw (ws ++ [v]))) else .bad
      | .l _ => if ws.length < SZ ∧ b ≤ n then .ok () (h.set n (.lsw (ws ++ [v]))) else .bad
      | .x _ _ => .bad
    | _ => .bad
  | _ => .bad
/-- the list at a slot is never changed from here on -/
def evFrz (i : Nat) (env : Vars) (h : Hq) : R Fl := match env[i]? with
  | some (some (.l n)) => match h[n]? with
    | some (.lst xs) => .ok (.nx (env.set i (some (.d (.list xs))))) (h.set n .dead)
    | _ => .bad
  | _ => .bad

/-- the slots that a try's body leaves alone -/
def keepE (kp : List Nat) : Nat → Vars → Vars
  | _, [] => []
  | i, w :: ws => (if kp.contains i then w else none) :: keepE kp (i + 1) ws
/-- behind an except suite: its name is gone -/
def clrN (nm : Option Nat) (env : Vars) : Vars := match nm with
  | none => env
  | some i => env.set i none
def clrF (nm : Option Nat) : R Fl → R Fl
  | .ok (.nx env) h => .ok (.nx (clrN nm env)) h
  | .ok (.bk env) h => .ok (.bk (clrN nm env)) h
  | .ok (.ct env) h => .ok (.ct (clrN nm env)) h
  | .ok (.rt w) h => .ok (.rt w) h
  | _ => .bad
def setN (nm : Option Nat) (w : W) (env : Vars) : Vars := match nm with
  | none => env
  | some i => env.set i (some w)
def nmIn (nm : Option Nat) (env : Vars) : Bool := match nm with
  | none => true
  | some i => decide (i < env.length)
mutual
noncomputable def evS (b : Nat) (C : CallF) : S → Vars → Hq → R Fl
  | .bad, _, _ => .bad
  | .asg t u e, env, h => (evE b C e env h).bind fun w h => match bindT t u w env with
    | some env => .ok (.nx env) h
    | none => .bad
  | .set o i e, env, h => (evE b C e env h).bind fun v h => (evE b C o env h).bind fun w h => (evE b C i env h).bind fun k h => (evSet b w k v h).bind fun _ h => .ok (.nx env) h
  | .app o e, env, h => (evE b C o env h).bind fun w h => if recvL h w then (evE b C e env h).bind fun v h => (evApp b w v h).bind fun _ h => .ok (.nx env) h else .bad
  | .expr e, env, h => (evE b C e env h).bind fun _ h => .ok (.nx env) h
  | .fst c o f e, env, h => (evE b C e env h).bind fun v h => (evE b C o env h).bind fun w h => (evFst b c f w v h).bind fun _ h => .ok (.nx env) h
  | .ret e, env, h => (evE b C e env h).bind fun w h => .ok (.rt w) h
  | .retN, _, h => .ok (.rt (.d .none)) h
  | .ifs c x y, env, h => (evE b C c env h).bind fun v h => match v with
    | .d (.bool true) => evSs b C x env h
    | .d (.bool false) => evSs b C y env h
    | _ => .bad
  | .forS t u it s, env, h => (evIt b C it env h).bind fun ws h => forGo (fun w env h => kpt ws.2 h (match bindT t u w env with
    | some env => evSs b C s env h
    | none => .bad)) ws.1 env h
  | .whl n c s, env, h => whlGo (fun env h => evE b C c env h) (fun env h => evSs b C s env h) n env h
  | .pass, env, h => .ok (.nx env) h
  | .brk, env, h => .ok (.bk env) h
  | .cnt, env, h => .ok (.ct env) h
  | .rais c es, env, h => (evEs b C es env h).bind fun ws h => match allD ws with
    | some ds => .ex c ds h
    | none => .bad
  | .raism c g k es, env, h => (evEs b C es env h).bind fun ws h => match allD ws with
    | some ds => if ds.length = k ∧ (evMg g ds).isSome = true then .ex c ds.reverse h else .bad
    | none => .bad
  | .tryS cs nm kp x y, env, h => match evSs b C x env h with
    | .ex c ds h' => if cs.contains c then if !nmIn nm env then .bad else clrF nm (evSs b C y (setN nm (.x c ds) (keepE kp 0 env)) h') else .ex c ds h'
    | r => r
  | .frz i, env, h => evFrz i env h
noncomputable def evSs (b : Nat) (C : CallF) : Ss → Vars → Hq → R Fl
  | .nil, env, h => .ok (.nx env) h
  | .cons s ss, env, h => (evS b C s env h).bind fun q h => match q with
    | .nx env => evSs b C ss env h
    | q => .ok q h
end

/-! ### defs -/
structure FD where
  np : Nat
  ns : Nat
  tr : Bool
  body : Ss

def fin (tr : Bool) (n : Nat) (w : W) (h : Hq) : R W := match tr with
  | false => .ok w h
  | true => match w with
    | .d x => .ok (.d x) (h.take n)
    | _ => .bad
noncomputable def runF (C : CallF) (fd : FD) (b : Nat) (ws : List W) (h : Hq) : R W :=
  if ws.length = fd.np then
    match evSs (if fd.tr then h.length else b) C fd.body (ws.map some ++ List.replicate (fd.ns - fd.np) none) h with
    | .ok (.nx _) h' => fin fd.tr h.length (.d .none) h'
    | .ok (.rt w) h' => fin fd.tr h.length w h'
    | .ok _ _ => .bad
    | .ex c ds h' => .ex c ds (if fd.tr then h'.take h.length else h')
    | .bad => .bad
  else .bad
noncomputable def callN (T : List FD) : Nat → CallF
  | 0, _, _, _, _ => .bad
  | n + 1, b, f, ws, h => match T[f]? with
    | some fd => runF (callN T n) fd b ws h
    | none => .bad
theorem mem_insU {x k : Int} : ∀ {l : List Int}, k ∈ insU x l ↔ k = x ∨ k ∈ l
  | [] => by simp [insU]
  | y :: ys => by
    unfold insU
    split
    · simp
    · split
      · rename_i h; subst h; simp
      · simp only [List.mem_cons, mem_insU (l := ys)]
        constructor
        · rintro (h | h | h) <;> simp [h]
        · rintro (h | h | h) <;> simp [h]
theorem mem_sortU {k : Int} : ∀ {ns : List Int}, k ∈ sortU ns ↔ k ∈ ns
  | [] => by simp [sortU]
  | n :: ns => by
    show k ∈ insU n (sortU ns) ↔ _
    rw [mem_insU, mem_sortU]
    simp
theorem asc_insU {x : Int} : ∀ {l : List Int}, l.Pairwise (· < ·) → (insU x l).Pairwise (· < ·)
  | [], _ => by simp [insU]
  | y :: ys, h => by
    rw [List.pairwise_cons] at h
    unfold insU
    split
    · rename_i hx
      refine List.pairwise_cons.mpr ⟨fun z hz => ?_, List.pairwise_cons.mpr h⟩
      rcases List.mem_cons.mp hz with e | e
      · omega
      · have := h.1 z e; omega
    · split
      · exact List.pairwise_cons.mpr h
      · refine List.pairwise_cons.mpr ⟨fun z hz => ?_, asc_insU h.2⟩
        rcases mem_insU.mp hz with e | e
        · omega
        · exact h.1 z e
theorem asc_sortU : ∀ ns : List Int, (sortU ns).Pairwise (· < ·)
  | [] => .nil
  | n :: ns => asc_insU (asc_sortU ns)
theorem asc_eq : ∀ {a b : List Int}, a.Pairwise (· < ·) → b.Pairwise (· < ·) → (∀ k, k ∈ a ↔ k ∈ b) → a = b := by
  intro a b ha hb h
  have na : a.Nodup := ha.imp fun h => by omega
  have nb : b.Nodup := hb.imp fun h => by omega
  refine List.Perm.eq_of_pairwise (le := (· ≤ ·)) (fun a b _ _ h1 h2 => Int.le_antisymm h1 h2) (ha.imp fun h => by omega) (hb.imp fun h => by omega) ((List.perm_ext_iff_of_nodup na nb).mpr h)
end Ev

/-! EvB: how a small state (h, env) stands for a heap and slots of the layer. -/
namespace Ev
open PySem PySem.Spec L2
/-- the world (its hashes) -/
class Wd where
  w : World
  ca : Nat → Addr

section
variable {K : PySem.W.Frag}

def HpLe (F F' : Hp) : Prop := ∀ a o, F a = some o → F' a = some o
theorem HpLe.refl (F : Hp) : HpLe F F := fun _ _ h => h
theorem HpLe.trans {F F1 F2 : Hp} (a : HpLe F F1) (b : HpLe F1 F2) : HpLe F F2 := fun c o h => b c o (a c o h)
theorem HpLe.upd {F : Hp} {p : Addr} {o : HO} (h : F p = none) : HpLe F (upd F p o) := fun b u e => by
  rw [upd_ne (ne_of_none e h)]; exact e
theorem HpLe.rd {F F' : Hp} {a : Addr} {u : HO} (le : HpLe F F') (r : Rd F a u) : Rd F' a u := by
  rcases r with r | ⟨o, r⟩
  · exact .inl (le _ _ r)
  · exact .inr ⟨o, le _ _ r⟩
theorem HpLe.sql {F F' : Hp} {a : Addr} {xs : List V} (le : HpLe F F') (r : SqL K F a xs) : SqL K F' a xs := r.imp (le.rd) id
theorem HpLe.sqt {F F' : Hp} {a : Addr} {xs : List V} (le : HpLe F F') (r : SqT K F a xs) : SqT K F' a xs := r.imp (le.rd) id

mutual
theorem dp_mono {F F' : Hp} (le : HpLe F F') : ∀ (d : PyData) (v : V), Dp K F v d → Dp K F' v d
  | .none, _, h => by cases h; exact .non
  | .bool b, _, h => by cases h; exact .bl b
  | .int i, _, h => by cases h; exact .int i
  | .str x, _, h => by cases h; exact .str x
  | .list ds, _, h => by
    cases h with
    | lst hs ha => exact .lst (le.sql hs) (dps_mono le ds _ ha)
  | .tuple ds, _, h => by
    cases h with
    | tup hs ha => exact .tup (le.sqt hs) (dps_mono le ds _ ha)
  | .dict _, _, h => by cases h
theorem dps_mono {F F' : Hp} (le : HpLe F F') : ∀ (ds : List PyData) (vs : List V), DpAll K F vs ds → DpAll K F' vs ds
  | [], _, h => by cases h; exact .nil
  | d :: ds, _, h => by
    cases h with
    | cons h1 h2 => exact .cons (dp_mono le d _ h1) (dps_mono le ds _ h2)
end
mutual
theorem dp_plain {F : Hp} : ∀ (d : PyData) (v : V), Dp K F v d → d.plain = true
  | .none, _, _ => rfl
  | .bool b, _, _ => rfl
  | .int i, _, _ => rfl
  | .str x, _, _ => rfl
  | .list ds, _, h => by
    cases h with
    | lst hs ha => simp only [PyData.plain]; exact dps_plain ds _ ha
  | .tuple ds, _, h => by
    cases h with
    | tup hs ha => simp only [PyData.plain]; exact dps_plain ds _ ha
  | .dict _, _, h => by cases h
theorem dps_plain {F : Hp} : ∀ (ds : List PyData) (vs : List V), DpAll K F vs ds → PyData.plainAll ds = true
  | [], _, _ => rfl
  | d :: ds, _, h => by
    cases h with
    | cons h1 h2 => simp only [PyData.plainAll, dp_plain d _ h1, dps_plain ds _ h2, Bool.and_self]
end
end
end Ev
namespace L2
open PySem PySem.Spec
section
variable {K : PySem.W.Frag}
theorem DpAll.length {F : Hp} : ∀ {ds : List PyData} {vs : List V}, DpAll K F vs ds → vs.length = ds.length
  | [], _, h => by cases h; rfl
  | d :: ds, _, h => by
    cases h with
    | cons _ h2 => simp [DpAll.length h2]
theorem DpAll.app {F : Hp} : ∀ {xs ys : List PyData} {vs us : List V}, DpAll K F vs xs → DpAll K F us ys → DpAll K F (vs ++ us) (xs ++ ys)
  | [], _, _, _, h, g => by cases h; exact g
  | _ :: _, _, _, _, h, g => by
    cases h with
    | cons h1 h2 => exact .cons h1 (DpAll.app h2 g)
theorem DpAll.get {F : Hp} : ∀ {xs : List PyData} {vs : List V} {i : Nat} {x : PyData}, DpAll K F vs xs → xs[i]? = some x → ∃ v, vs[i]? = some v ∧ Dp K F v x
  | [], _, _, _, _, e => by simp at e
  | _ :: _, _, 0, _, h, e => by
    cases h with
    | cons h1 h2 => simp at e; subst e; exact ⟨_, rfl, h1⟩
  | _ :: xs, _, i + 1, _, h, e => by
    cases h with
    | cons h1 h2 => simpa using DpAll.get (i := i) h2 (by simpa using e)
theorem DpAll.set {F : Hp} {x : PyData} {v : V} (d : Dp K F v x) : ∀ {xs : List PyData} {vs : List V} (i : Nat), DpAll K F vs xs → DpAll K F (vs.set i v) (xs.set i x)
  | [], _, _, h => by cases h; exact .nil
  | _ :: _, _, 0, h => by
    cases h with
    | cons h1 h2 => exact .cons d h2
  | _ :: _, _, i + 1, h => by
    cases h with
    | cons h1 h2 => exact .cons h1 (DpAll.set d i h2)
theorem DpAll.take {F : Hp} : ∀ {xs : List PyData} {vs : List V} (n : Nat), DpAll K F vs xs → DpAll K F (vs.take n) (xs.take n)
  | _, _, 0, _ => by simp; exact .nil
  | [], _, _ + 1, h => by cases h; exact .nil
  | _ :: _, _, n + 1, h => by
    cases h with
    | cons h1 h2 => exact .cons h1 (DpAll.take n h2)
theorem DpAll.drop {F : Hp} : ∀ {xs : List PyData} {vs : List V} (n : Nat), DpAll K F vs xs → DpAll K F (vs.drop n) (xs.drop n)
  | _, _, 0, h => h
  | [], _, _ + 1, h => by cases h; exact .nil
  | _ :: _, _, n + 1, h => by
    cases h with
    | cons h1 h2 => exact DpAll.drop n h2
theorem DpAll.rep {F : Hp} {xs : List PyData} {vs : List V} (h : DpAll K F vs xs) : ∀ k : Nat, DpAll K F (List.replicate k vs).flatten (List.replicate k xs).flatten
  | 0 => .nil
  | k + 1 => by
    simp only [List.replicate_succ, List.flatten_cons]
    exact h.app (DpAll.rep h k)

end
end L2
namespace Ev
open PySem PySem.Spec L2
/-- a dict's table -/
def RawD (w : World) (h : Heap) (a : Addr) (es : List (NestedKey × Addr × Value)) : Prop := ∃ o es' ep, h.get? a = some o ∧ o.ExactDict ∧ o.data = .dict es' ep ∧ es'.toList = es.map fun x => (⟨x.1.hash w, .ref x.2.1, x.2.2⟩ : DictEntry)
section
variable [Wd]
def dctO (a : Addr) (es : List (NestedKey × Addr × Value)) : HO := .ext fun h => RawD Wd.w h a es
end
/-- a dict's keys and values, as data -/
inductive DK (K : PySem.W.Frag) (F : Hp) : List (PyData × PyData) → List (NestedKey × Addr × Value) → Prop
  | nil : DK K F [] []
  | cons {d x : PyData} {r : List (PyData × PyData)} {k : NestedKey} {a : Addr} {u : Value} {v : V} {s : List (NestedKey × Addr × Value)} : nkey d = some k → Dp K F (.ref a) d → d.depth ≤ 8 → RelV v u → Dp K F v x → DK K F r s → DK K F ((d, x) :: r) ((k, a, u) :: s)
/-- the same of a dict whose keys are ints -/
inductive DI (K : PySem.W.Frag) (F : Hp) : List (Int × PyData) → List (L2.Key × V) → Prop
  | nil : DI K F [] []
  | cons {i : Int} {x : PyData} {r : List (Int × PyData)} {v : V} {s : List (L2.Key × V)} : Dp K F v x → DI K F r s → DI K F ((i, x) :: r) ((.inl i, v) :: s)
theorem DI.mono {K : PySem.W.Frag} {F F' : Hp} (le : HpLe F F') {r : List (Int × PyData)} {s : List (L2.Key × V)} (h : DI K F r s) : DI K F' r s := by
  induction h with
  | nil => exact .nil
  | cons h1 _ ih => exact .cons (dp_mono le _ _ h1) ih
theorem DI.length {K : PySem.W.Frag} {F : Hp} {r : List (Int × PyData)} {s : List (L2.Key × V)} (h : DI K F r s) : s.length = r.length := by
  induction h with
  | nil => rfl
  | cons _ _ ih => simp [ih]
theorem DI.get {K : PySem.W.Frag} {F : Hp} {r : List (Int × PyData)} {s : List (L2.Key × V)} (h : DI K F r s) (k : Int) :
    match iget r k with
    | some x => ∃ v, valV s (.inl k) = some v ∧ Dp K F v x
    | none => valV s (.inl k) = none := by
  induction h with
  | nil => simp [iget, valV]
  | cons h1 h2 ih =>
    rename_i i x r v s
    by_cases e : i = k
    · subst e
      simp only [iget, List.find?_cons, decide_true, Option.map_some]
      exact ⟨v, valV_pos rfl, h1⟩
    · have e' : ¬ (Sum.inl i : L2.Key) = .inl k := fun z => e (Sum.inl.inj z)
      simp only [iget, List.find?_cons, e, decide_false] at ih ⊢
      rw [valV_neg e']
      exact ih
theorem DI.repl {K : PySem.W.Frag} {F : Hp} {r : List (Int × PyData)} {s : List (L2.Key × V)} (h : DI K F r s) (k : Int) {v : V} {x : PyData} (hv : Dp K F v x) :
    DI K F (r.map fun p => if p.1 = k then (p.1, x) else p) (s.map fun kv => if kv.1 = .inl k then (kv.1, v) else kv) := by
  induction h with
  | nil => exact .nil
  | cons h1 h2 ih =>
    rename_i i y r u s
    by_cases e : i = k
    · subst e
      simp only [List.map_cons, if_true]
      exact .cons hv ih
    · have e' : ¬ (Sum.inl i : L2.Key) = .inl k := fun z => e (Sum.inl.inj z)
      simp only [List.map_cons, if_neg e, if_neg e']
      exact .cons h1 ih
theorem DI.snoc {K : PySem.W.Frag} {F : Hp} {r : List (Int × PyData)} {s : List (L2.Key × V)} (h : DI K F r s) (k : Int) {v : V} {x : PyData} (hv : Dp K F v x) : DI K F (r ++ [(k, x)]) (s ++ [(.inl k, v)]) := by
  induction h with
  | nil => exact .cons hv .nil
  | cons h1 _ ih => exact .cons h1 ih
theorem DI.put {K : PySem.W.Frag} {F : Hp} {r : List (Int × PyData)} {s : List (L2.Key × V)} (h : DI K F r s) (k : Int) {v : V} {x : PyData} (hv : Dp K F v x) : DI K F (iput r k x) (putK s (.inl k) v) := by
  have g := h.get k
  unfold iput putK
  rw [valV_any]
  cases e : iget r k with
  | some y =>
    rw [e] at g
    obtain ⟨u, e1, _⟩ := g
    rw [e1]
    exact h.repl k hv
  | none =>
    rw [e] at g
    rw [g]
    exact h.snoc k hv
theorem DK.mono {K : PySem.W.Frag} {F F' : Hp} (le : HpLe F F') {r : List (PyData × PyData)} {s : List (NestedKey × Addr × Value)} (h : DK K F r s) : DK K F' r s := by
  induction h with
  | nil => exact .nil
  | cons h1 h2 h3 h4 h5 _ ih => exact .cons h1 (dp_mono le _ _ h2) h3 h4 (dp_mono le _ _ h5) ih
theorem DK.length {K : PySem.W.Frag} {F : Hp} {r : List (PyData × PyData)} {s : List (NestedKey × Addr × Value)} (h : DK K F r s) : s.length = r.length := by
  induction h with
  | nil => rfl
  | cons _ _ _ _ _ _ ih => simp [ih]
section
variable {K : PySem.W.Frag} [Wd]
/-! ### values and objects -/
def WR (K : PySem.W.Frag) (m : List Addr) (F : Hp) (v : V) : W → Prop
  | .d x => Dp K F v x
  | .l n => ∃ a, m[n]? = some a ∧ v = .ref a
  | .x _ _ => False
inductive WRs (K : PySem.W.Frag) (m : List Addr) (F : Hp) : List V → List W → Prop
  | nil : WRs K m F [] []
  | cons {v : V} {vs : List V} {w : W} {ws : List W} : WR K m F v w → WRs K m F vs ws → WRs K m F (v :: vs) (w :: ws)
theorem WRs.length {m : List Addr} {F : Hp} : ∀ {ws : List W} {vs : List V}, WRs K m F vs ws → vs.length = ws.length
  | [], _, h => by cases h; rfl
  | _ :: _, _, h => by
    cases h with
    | cons _ h2 => simp [WRs.length h2]
theorem WRs.app {m : List Addr} {F : Hp} : ∀ {xs ys : List W} {vs us : List V}, WRs K m F vs xs → WRs K m F us ys → WRs K m F (vs ++ us) (xs ++ ys)
  | [], _, _, _, h, g => by cases h; exact g
  | _ :: _, _, _, _, h, g => by
    cases h with
    | cons h1 h2 => exact .cons h1 (WRs.app h2 g)
theorem WRs.get {m : List Addr} {F : Hp} : ∀ {xs : List W} {vs : List V} {i : Nat} {x : W}, WRs K m F vs xs → xs[i]? = some x → ∃ v, vs[i]? = some v ∧ WR K m F v x
  | [], _, _, _, _, e => by simp at e
  | _ :: _, _, 0, _, h, e => by
    cases h with
    | cons h1 h2 => simp at e; subst e; exact ⟨_, rfl, h1⟩
  | _ :: xs, _, i + 1, _, h, e => by
    cases h with
    | cons h1 h2 => simpa using WRs.get (i := i) h2 (by simpa using e)
theorem WRs.set {m : List Addr} {F : Hp} {x : W} {v : V} (d : WR K m F v x) : ∀ {xs : List W} {vs : List V} (i : Nat), WRs K m F vs xs → WRs K m F (vs.set i v) (xs.set i x)
  | [], _, _, h => by cases h; exact .nil
  | _ :: _, _, 0, h => by
    cases h with
    | cons h1 h2 => exact .cons d h2
  | _ :: _, _, i + 1, h => by
    cases h with
    | cons h1 h2 => exact .cons h1 (WRs.set d i h2)
theorem WRs.ofD {m : List Addr} {F : Hp} : ∀ {xs : List PyData} {vs : List V}, DpAll K F vs xs → WRs K m F vs (xs.map .d)
  | [], _, h => by cases h; exact .nil
  | _ :: _, _, h => by
    cases h with
    | cons h1 h2 => exact .cons h1 (WRs.ofD h2)
theorem WRs.toD {m : List Addr} {F : Hp} : ∀ {ws : List W} {vs : List V} {xs : List PyData}, WRs K m F vs ws → allD ws = some xs → DpAll K F vs xs
  | [], _, _, h, e => by cases h; simp [allD] at e; subst e; exact .nil
  | .d x :: ws, _, _, h, e => by
    cases h with
    | cons h1 h2 =>
      simp only [allD, Option.map_eq_some_iff] at e
      obtain ⟨ys, e, rfl⟩ := e
      exact .cons h1 (WRs.toD h2 e)
  | .l _ :: _, _, _, _, e => by simp [allD] at e
  | .x _ _ :: _, _, _, _, e => by simp [allD] at e

structure MLe (m m' : List Addr) : Prop where
  pre : ∃ t, m' = m ++ t
theorem MLe.refl (m : List Addr) : MLe m m := ⟨[], by simp⟩
theorem MLe.trans {a b c : List Addr} (h : MLe a b) (g : MLe b c) : MLe a c := by
  obtain ⟨t, rfl⟩ := h.pre
  obtain ⟨u, rfl⟩ := g.pre
  exact ⟨t ++ u, by simp⟩
theorem MLe.get {m m' : List Addr} (h : MLe m m') {n : Nat} {a : Addr} (e : m[n]? = some a) : m'[n]? = some a := by
  obtain ⟨t, rfl⟩ := h.pre
  rw [List.getElem?_append_left (List.getElem?_eq_some_iff.mp e).1]; exact e
theorem MLe.mem {m m' : List Addr} (h : MLe m m') {a : Addr} (e : a ∈ m) : a ∈ m' := by
  obtain ⟨t, rfl⟩ := h.pre
  exact List.mem_append_left _ e
theorem wr_mono {m m' : List Addr} {F F' : Hp} {v : V} (l : MLe m m') (le : HpLe F F') : ∀ {w : W}, WR K m F v w → WR K m' F' v w
  | .d x, h => dp_mono le x v h
  | .l n, ⟨a, e, q⟩ => ⟨a, l.get e, q⟩
  | .x _ _, h => h.elim
theorem wrs_mono {m m' : List Addr} {F F' : Hp} (l : MLe m m') (le : HpLe F F') : ∀ {ws : List W} {vs : List V}, WRs K m F vs ws → WRs K m' F' vs ws
  | [], _, h => by cases h; exact .nil
  | _ :: _, _, h => by
    cases h with
    | cons h1 h2 => exact .cons (wr_mono l le h1) (wrs_mono l le h2)

/-- attributes, one by one -/
inductive FRs (K : PySem.W.Frag) (m : List Addr) (F : Hp) : List (Str × V) → List (Str × W) → Prop
  | nil : FRs K m F [] []
  | cons {f : Str} {v : V} {w : W} {r : List (Str × V)} {s : List (Str × W)} : WR K m F v w → FRs K m F r s → FRs K m F ((f, v) :: r) ((f, w) :: s)
theorem FRs.length {m : List Addr} {F : Hp} : ∀ {s : List (Str × W)} {r : List (Str × V)}, FRs K m F r s → r.length = s.length
  | [], _, h => by cases h; rfl
  | _ :: _, _, h => by
    cases h with
    | cons _ h2 => simp [FRs.length h2]
theorem FRs.look {m : List Addr} {F : Hp} (f : Str) : ∀ {s : List (Str × W)} {r : List (Str × V)}, FRs K m F r s → match s.lookup f with
    | some w => ∃ v, r.lookup f = some v ∧ WR K m F v w
    | none => r.lookup f = none
  | [], _, h => by cases h; simp [List.lookup]
  | (g, w) :: s, _, h => by
    cases h with
    | cons h1 h2 =>
      by_cases e : f = g
      · have hb : (f == g) = true := beq_iff_eq.mpr e
        simp only [List.lookup, hb]
        exact ⟨_, rfl, h1⟩
      · have hb : (f == g) = false := beq_eq_false_iff_ne.mpr e
        simp only [List.lookup, hb]
        exact FRs.look f h2
theorem FRs.put {m : List Addr} {F : Hp} (f : Str) {v : V} {w : W} (d : WR K m F v w) : ∀ {s : List (Str × W)} {r : List (Str × V)}, FRs K m F r s → FRs K m F (L2.putF f v r) (putW f w s)
  | [], _, h => by cases h; exact .cons d .nil
  | (g, x) :: s, _, h => by
    cases h with
    | cons h1 h2 =>
      simp only [L2.putF, putW]
      split
      · exact .cons d h2
      · exact .cons h1 (FRs.put f d h2)
theorem frs_mono {m m' : List Addr} {F F' : Hp} (l : MLe m m') (le : HpLe F F') : ∀ {s : List (Str × W)} {r : List (Str × V)}, FRs K m F r s → FRs K m' F' r s
  | [], _, h => by cases h; exact .nil
  | _ :: _, _, h => by
    cases h with
    | cons h1 h2 => exact .cons (wr_mono l le h1) (frs_mono l le h2)
theorem putW_mem (f : Str) (w : W) : ∀ (s : List (Str × W)) (p : Str × W), p ∈ putW f w s → p.2 = w ∨ p ∈ s
  | [], p, h => by
    simp only [putW, List.mem_singleton] at h
    subst h
    exact .inl rfl
  | (g, x) :: s, p, h => by
    simp only [putW] at h
    split at h
    · rcases List.mem_cons.mp h with e | e
      · subst e; exact .inl rfl
      · exact .inr (List.mem_cons_of_mem _ e)
    · rcases List.mem_cons.mp h with e | e
      · subst e; exact .inr List.mem_cons_self
      · exact (putW_mem f w s p e).imp id (List.mem_cons_of_mem _)

def refsW : W → List Nat
  | .d _ => []
  | .x _ _ => []
  | .l n => [n]
def refs : Ob → List Nat
  | .lsw ws => ws.flatMap refsW
  | .obj _ fs => fs.flatMap fun p => refsW p.2
  | _ => []
def OR (K : PySem.W.Frag) (m : List Addr) (F H : Hp) (a : Addr) : Ob → Prop
  | .lst xs => F a = none ∧ ∃ vs, H a = some (.lst vs) ∧ DpAll K F vs xs
  | .lsw ws => F a = none ∧ ∃ vs, H a = some (.lst vs) ∧ WRs K m F vs ws
  | .dct kvs => F a = none ∧ ∃ es, H a = some (dctO a es) ∧ DK K F kvs es ∧ (es.map (·.1)).Nodup ∧ (a == sysModules) = false ∧ kvs.length ≤ 1000000
  | .dki kvs => F a = none ∧ ∃ vs, H a = some (.dK vs) ∧ DI K F kvs vs ∧ kvs.length ≤ 1000000
  | .obj c fs => F a = none ∧ ∃ dx vs, H a = some (.ins (Wd.ca c) dx vs) ∧ FRs K m F vs fs
  | .dead => True

structure HR (K : PySem.W.Frag) (B : List Nat) (m : List Addr) (F : Hp) (h : Hq) (H : Hp) : Prop where
  len : m.length = h.length
  nd : m.Nodup
  ob : ∀ (n : Nat) (o : Ob) (a : Addr), h[n]? = some o → m[n]? = some a → OR K m F H a o
  sub : HpLe F H
  there : ∀ a ∈ m, H a ≠ none
  clo : ∀ c ∈ B, c ≤ h.length ∧ ∀ (n : Nat) (o : Ob) (k : Nat), n < c → h[n]? = some o → k ∈ refs o → k < c
/-- the exception that an except suite holds: its slot, its address, its number and data -/
structure ExI where
  i : Nat
  a : Addr
  n : Nat
  ds : List PyData
  R : Hp → Prop
  mono : ∀ F F', HpLe F F' → R F → R F'
structure BB where
  c : List Nat
  ex : Option ExI
structure SR (K : PySem.W.Frag) (B : BB) (m : List Addr) (F : Hp) (env : Vars) (h : Hq) (σ : St) (H : Hp) : Prop where
  hr : HR K B.c m F h H
  el : env.length ≤ σ.length
  var : ∀ (i : Nat) (w : W), (∀ e, B.ex = some e → i ≠ e.i) → env[i]? = some (some w) → ∃ v, σ[i]? = some (some v) ∧ WR K m F v w
  exv : ∀ e, B.ex = some e → env[e.i]? = some (some (.x e.n e.ds)) ∧ σ[e.i]? = some (some (.ref e.a)) ∧ e.R F
/-- behind something: what was told stays -/
structure Ext (m : List Addr) (F H : Hp) (m' : List Addr) (F' H' : Hp) : Prop where
  ml : MLe m m'
  sub : HpLe F F'
  frm : ∀ a o, H a = some o → a ∉ m → H' a = some o
  new : ∀ a, a ∈ m' → a ∉ m → H a = none
  frf : ∀ a, a ∉ m → F a = none → H a ≠ none → F' a = none
theorem Ext.refl (m : List Addr) (F H : Hp) : Ext m F H m F H := ⟨.refl _, .refl _, fun _ _ h _ => h, fun _ h g => absurd h g, fun _ _ h _ => h⟩
theorem Ext.trans {m m1 m2 : List Addr} {F F1 F2 H H1 H2 : Hp} (a : Ext m F H m1 F1 H1) (b : Ext m1 F1 H1 m2 F2 H2) : Ext m F H m2 F2 H2 := by
  have nm : ∀ x o, H x = some o → x ∉ m → x ∉ m1 := fun x o e hx hm => by
    have := a.new x hm hx
    rw [e] at this; cases this
  refine ⟨a.ml.trans b.ml, a.sub.trans b.sub, fun x o e hx => b.frm x o (a.frm x o e hx) (nm x o e hx), fun x hx hm => ?_, fun x hx hf hh => ?_⟩
  · by_cases h1 : x ∈ m1
    · exact a.new x h1 hm
    · have := b.new x hx h1
      cases q : H x with
      | none => rfl
      | some o => rw [a.frm x o q hm] at this; cases this
  · obtain ⟨o, e⟩ := Option.ne_none_iff_exists'.mp hh
    exact b.frf x (nm x o e hx) (a.frf x hx hf hh) (by rw [a.frm x o e hx]; simp)

section
variable {B : List Nat} {m : List Addr} {F H : Hp} {env : Vars} {h : Hq} {σ : St} {p a : Addr} {n : Nat}
theorem HR.freeF (r : HR K B m F h H) (hp : H p = none) : F p = none := by
  cases q : F p with
  | none => rfl
  | some o => have := r.sub _ _ q; rw [hp] at this; cases this
theorem HR.freeM (r : HR K B m F h H) (hp : H p = none) : p ∉ m := fun hm => r.there p hm hp
theorem HR.at (r : HR K B m F h H) {o : Ob} (e : h[n]? = some o) : ∃ a, m[n]? = some a ∧ OR K m F H a o := by
  have hn : n < m.length := by rw [r.len]; exact (List.getElem?_eq_some_iff.mp e).1
  exact ⟨m[n], by simp [hn], r.ob n o _ e (by simp [hn])⟩
theorem or_mono {m' : List Addr} {F' H' : Hp} {o : Ob} (l : MLe m m') (le : HpLe F F') (hF : F a = none → F' a = none) (hH : ∀ u, H a = some u → F a = none → H' a = some u) (q : OR K m F H a o) : OR K m' F' H' a o := by
  cases o with
  | lst xs =>
    obtain ⟨f, vs, e, d⟩ := q
    exact ⟨hF f, vs, hH _ e f, dps_mono le _ _ d⟩
  | lsw ws =>
    obtain ⟨f, vs, e, d⟩ := q
    exact ⟨hF f, vs, hH _ e f, wrs_mono l le d⟩
  | dct _ =>
    obtain ⟨f, es, e, d, r⟩ := q
    exact ⟨hF f, es, hH _ e f, d.mono le, r⟩
  | dki _ =>
    obtain ⟨f, es, e, d, r⟩ := q
    exact ⟨hF f, es, hH _ e f, d.mono le, r⟩
  | obj _ _ =>
    obtain ⟨f, dx, vs, e, d⟩ := q
    exact ⟨hF f, dx, vs, hH _ e f, frs_mono l le d⟩
  | dead => trivial
/-- a new thing that never changes -/
theorem HR.newF (r : HR K B m F h H) {u : HO} (hp : H p = none) : HR K B m (upd F p u) h (upd H p u) ∧ Ext m F H m (upd F p u) (upd H p u) := by
  have fp := r.freeF hp
  have mp := r.freeM hp
  have le : HpLe F (upd F p u) := .upd fp
  refine ⟨⟨r.len, r.nd, fun n o a e ea => ?_, fun b o e => ?_, fun b hb => ?_, r.clo⟩, ⟨.refl _, le, fun b o e _ => by rw [upd_ne (ne_of_none e hp)]; exact e, fun _ x y => absurd x y, fun b hb hf hh => ?_⟩⟩
  · have hap : a ≠ p := fun z => mp (z ▸ List.mem_of_getElem? ea)
    exact or_mono (.refl _) le (fun f => by rw [upd_ne hap]; exact f) (fun u e _ => by rw [upd_ne hap]; exact e) (r.ob n o a e ea)
  · by_cases hb : b = p
    · subst hb; rw [upd_same] at e ⊢; exact e
    · rw [upd_ne hb] at e ⊢; exact r.sub b o e
  · rw [upd_ne (show b ≠ p from fun z => mp (z ▸ hb))]; exact r.there b hb
  · have hbp : b ≠ p := fun z => hh (z ▸ hp)
    rw [upd_ne hbp]; exact hf
theorem getElem?_snoc {α : Type} {l : List α} {x y : α} {i : Nat} (e : (l ++ [x])[i]? = some y) : (i < l.length ∧ l[i]? = some y) ∨ (i = l.length ∧ y = x) := by
  rcases Nat.lt_trichotomy i l.length with h | h | h
  · rw [List.getElem?_append_left h] at e; exact .inl ⟨h, e⟩
  · subst h; simp at e; exact .inr ⟨rfl, e.symm⟩
  · rw [List.getElem?_append_right (by omega)] at e
    have : i - l.length ≠ 0 := by omega
    obtain ⟨k, hk⟩ := Nat.exists_eq_succ_of_ne_zero this
    rw [hk] at e; simp at e
/-- a new object that may change; u: what stands at p -/
theorem HR.newL (r : HR K B m F h H) {u : HO} {o : Ob} (hp : H p = none) (ho : OR K (m ++ [p]) F (upd H p u) p o) (hc : ∀ c ∈ B, c ≤ h.length → True) : HR K B (m ++ [p]) F (h ++ [o]) (upd H p u) ∧ Ext m F H (m ++ [p]) F (upd H p u) := by
  have fp := r.freeF hp
  have mp := r.freeM hp
  have ml : MLe m (m ++ [p]) := ⟨[p], rfl⟩
  refine ⟨⟨by simp [r.len], ?_, fun n q a e ea => ?_, fun b q e => ?_, fun b hb => ?_, fun c hc => ?_⟩, ⟨ml, .refl _, fun b q e _ => by rw [upd_ne (ne_of_none e hp)]; exact e, fun b x y => ?_, fun _ _ hf _ => hf⟩⟩
  · rw [List.nodup_append]
    refine ⟨r.nd, by simp, fun a ha b hb => ?_⟩
    have : b = p := by simpa using hb
    subst this
    exact fun z => mp (z ▸ ha)
  · rcases getElem?_snoc e with ⟨hn, e⟩ | ⟨hn, rfl⟩
    · rw [List.getElem?_append_left (by rw [r.len]; exact hn)] at ea
      have hap : a ≠ p := fun z => mp (z ▸ List.mem_of_getElem? ea)
      exact or_mono ml (.refl _) id (fun u e _ => by rw [upd_ne hap]; exact e) (r.ob n q a e ea)
    · rw [hn, ← r.len] at ea
      simp at ea
      subst ea; exact ho
  · rw [upd_ne (fun z => by subst z; rw [fp] at e; cases e)]; exact r.sub b q e
  · rcases List.mem_append.mp hb with hb | hb
    · rw [upd_ne (show b ≠ p from fun z => mp (z ▸ hb))]; exact r.there b hb
    · have : b = p := by simpa using hb
      subst this; rw [upd_same]; simp
  · obtain ⟨h1, h2⟩ := r.clo c hc
    refine ⟨by simp; omega, fun n q k hn e hk => ?_⟩
    rw [List.getElem?_append_left (by omega)] at e
    exact h2 n q k hn e hk
  · rcases List.mem_append.mp x with x | x
    · exact absurd x y
    · have : b = p := by simpa using x
      subst this; exact hp
theorem nd_ne {l : List Addr} (hN : l.Nodup) {i j : Nat} {x y : Addr} (a : l[i]? = some x) (b : l[j]? = some y) (ne : i ≠ j) : x ≠ y := fun z => by
  subst z
  obtain ⟨h1, e1⟩ := List.getElem?_eq_some_iff.mp a
  obtain ⟨h2, e2⟩ := List.getElem?_eq_some_iff.mp b
  exact ne ((List.getElem_inj hN).mp (e1.trans e2.symm))
/-- an object changes -/
theorem HR.put (r : HR K B m F h H) {u : HO} {o : Ob} (hm : m[n]? = some a) (fa : F a = none) (ho : OR K m F (upd H a u) a o) (hc : ∀ c ∈ B, n < c → ∀ k ∈ refs o, k < c) :
    HR K B m F (h.set n o) (upd H a u) ∧ Ext m F H m F (upd H a u) := by
  have am : a ∈ m := List.mem_of_getElem? hm
  refine ⟨⟨by simp [r.len], r.nd, fun k q b e eb => ?_, fun b q e => ?_, fun b hb => ?_, fun c hB => ?_⟩, ⟨.refl _, .refl _, fun b q e hb => ?_, fun _ x y => absurd x y, fun _ _ hf _ => hf⟩⟩
  · by_cases hk : k = n
    · subst hk
      have hl : k < h.length := by rw [← r.len]; exact (List.getElem?_eq_some_iff.mp hm).1
      rw [List.getElem?_set_self hl] at e
      rw [hm] at eb
      cases e; cases eb; exact ho
    · rw [List.getElem?_set_ne (Ne.symm hk)] at e
      have hab : b ≠ a := nd_ne r.nd eb hm hk
      exact or_mono (.refl _) (.refl _) id (fun u e _ => by rw [upd_ne hab]; exact e) (r.ob k q b e eb)
  · rw [upd_ne (fun z => by subst z; rw [fa] at e; cases e)]; exact r.sub b q e
  · by_cases hb' : b = a
    · subst hb'; rw [upd_same]; simp
    · rw [upd_ne hb']; exact r.there b hb
  · obtain ⟨h1, h2⟩ := r.clo c hB
    refine ⟨by simpa using h1, fun k q j hk e hj => ?_⟩
    by_cases hkn : k = n
    · subst hkn
      have hl : k < h.length := by omega
      rw [List.getElem?_set_self hl] at e
      cases e
      exact hc c hB hk j hj
    · rw [List.getElem?_set_ne (Ne.symm hkn)] at e
      exact h2 k q j hk e hj
  · rw [upd_ne (show b ≠ a from fun z => hb (z ▸ am))]; exact e
/-- a list is never changed from here on -/
theorem HR.frz (r : HR K B m F h H) {vs : List V} (hm : m[n]? = some a) (fa : F a = none) (e : H a = some (.lst vs)) :
    HR K B m (upd F a (.lst vs)) (h.set n .dead) H ∧ Ext m F H m (upd F a (.lst vs)) H := by
  have am : a ∈ m := List.mem_of_getElem? hm
  have le : HpLe F (upd F a (.lst vs)) := .upd fa
  refine ⟨⟨by simp [r.len], r.nd, fun k q b eq eb => ?_, fun b q eq => ?_, r.there, fun c hB => ?_⟩, ⟨.refl _, le, fun b q e _ => e, fun _ x y => absurd x y, fun b hb hf _ => ?_⟩⟩
  · by_cases hk : k = n
    · subst hk
      have hl : k < h.length := by rw [← r.len]; exact (List.getElem?_eq_some_iff.mp hm).1
      rw [List.getElem?_set_self hl] at eq
      cases eq; trivial
    · rw [List.getElem?_set_ne (Ne.symm hk)] at eq
      have hab : b ≠ a := nd_ne r.nd eb hm hk
      exact or_mono (.refl _) le (fun f => by rw [upd_ne hab]; exact f) (fun u e _ => e) (r.ob k q b eq eb)
  · by_cases hb : b = a
    · subst hb; rw [upd_same] at eq; cases eq; exact e
    · rw [upd_ne hb] at eq; exact r.sub b q eq
  · obtain ⟨h1, h2⟩ := r.clo c hB
    refine ⟨by simpa using h1, fun k q j hk eq hj => ?_⟩
    by_cases hkn : k = n
    · subst hkn
      have hl : k < h.length := by omega
      rw [List.getElem?_set_self hl] at eq
      cases eq
      simp [refs] at hj
    · rw [List.getElem?_set_ne (Ne.symm hkn)] at eq
      exact h2 k q j hk eq hj
  · rw [upd_ne (show b ≠ a from fun z => hb (z ▸ am))]; exact hf
/-- an unseen change: something else that is tracked -/
theorem HR.other (r : HR K B m F h H) {u : HO} (fp : F p = none) (mp : p ∉ m) : HR K B m F h (upd H p u) := by
  refine ⟨r.len, r.nd, fun n o a e ea => ?_, fun b o e => ?_, fun b hb => ?_, r.clo⟩
  · have hap : a ≠ p := fun z => mp (z ▸ List.mem_of_getElem? ea)
    exact or_mono (.refl _) (.refl _) id (fun u e _ => by rw [upd_ne hap]; exact e) (r.ob n o a e ea)
  · rw [upd_ne (fun z => by subst z; rw [fp] at e; cases e)]; exact r.sub b o e
  · rw [upd_ne (show b ≠ p from fun z => mp (z ▸ hb))]; exact r.there b hb
theorem take_app {α : Type} {m t : List α} {k : Nat} (hk : k ≤ m.length) : (m ++ t).take k = m.take k := by
  rw [List.take_append_of_le_length hk]
/-- behind a call: what it made is forgotten -/
theorem HR.cut {c : Nat} {m' : List Addr} {F' H' : Hp} {h' : Hq} (r : HR K (c :: B) m' F' h' H') (ml : MLe m m') (hc : c = m.length) (hB : ∀ d ∈ B, d ≤ c) : HR K B m F' (h'.take c) H' := by
  obtain ⟨t, rfl⟩ := ml.pre
  obtain ⟨c1, c2⟩ := r.clo c List.mem_cons_self
  have hl : (h'.take c).length = c := by rw [List.length_take]; omega
  refine ⟨by rw [hl, hc], (List.nodup_append.mp r.nd).1, fun n o a e ea => ?_, r.sub, fun a ha => r.there a (List.mem_append_left _ ha), fun d hd => ?_⟩
  · have hn : n < c := by rw [← hl]; exact (List.getElem?_eq_some_iff.mp e).1
    rw [List.getElem?_take_of_lt hn] at e
    have q := r.ob n o a e (by rw [List.getElem?_append_left (by omega)]; exact ea)
    cases o with
    | lst xs => exact q
    | lsw ws =>
      obtain ⟨f, vs, eH, d⟩ := q
      refine ⟨f, vs, eH, ?_⟩
      have hk : ∀ k ∈ refs (.lsw ws), k < c := fun k hk => c2 n _ k hn e hk
      clear e eH
      induction d with
      | nil => exact .nil
      | cons d1 d2 ih =>
        rename_i w ws'
        refine .cons ?_ (ih fun k hk' => hk k (by simp only [refs, List.flatMap_cons, List.mem_append]; exact .inr hk'))
        cases w with
        | d x => exact d1
        | l j =>
          obtain ⟨b, eb, rfl⟩ := d1
          have hj : j < c := hk j (by simp [refs, refsW])
          rw [List.getElem?_append_left (by omega)] at eb
          exact ⟨b, eb, rfl⟩
        | x _ _ => exact d1.elim
    | dct _ => exact q
    | dki _ => exact q
    | obj c' fs =>
      obtain ⟨f, dx, vs, eH, d⟩ := q
      refine ⟨f, dx, vs, eH, ?_⟩
      have hk : ∀ k ∈ refs (.obj c' fs), k < c := fun k hk => c2 n _ k hn e hk
      clear e eH
      induction d with
      | nil => exact .nil
      | cons d1 d2 ih =>
        rename_i g v w r ws'
        refine .cons ?_ (ih fun k hk' => hk k (by simp only [refs, List.flatMap_cons, List.mem_append]; exact .inr hk'))
        cases w with
        | d x => exact d1
        | l j =>
          obtain ⟨b, eb, rfl⟩ := d1
          have hj : j < c := hk j (by simp [refs, refsW])
          rw [List.getElem?_append_left (by omega)] at eb
          exact ⟨b, eb, rfl⟩
        | x _ _ => exact d1.elim
    | dead => trivial
  · obtain ⟨h1, h2⟩ := r.clo d (List.mem_cons_of_mem _ hd)
    have hdc := hB d hd
    refine ⟨by rw [hl]; exact hdc, fun n o k hn e hk => ?_⟩
    rw [List.getElem?_take_of_lt (by omega)] at e
    exact h2 n o k hn e hk
end
end
end Ev

/-! EvCm: a list or a tuple, so many times. -/
namespace L2
open PySem PySem.Spec PyProof.Rows
theorem lmulG (l : Addr) (its : Array Value) (n : Nat) (dd : Option Addr) (sl : Array (Option Value)) (k : Int) (t : Tok) (h0 : ¬(!Builtin.List.listFitsIndex k) = true) (h1 : ¬its.size * k.toNat > (2 ^ 63 - 1) / 8) (h2 : ¬Builtin.List.listTooLong (its.size * k.toNat) = true)
    (size : (List.foldl (fun a b => a ++ b) #[] (List.replicate (if its.isEmpty = true then 0 else k.toNat) its)).size ≤ sizeLine) :
    Meets (Builtin.«list.__mul__» ⟨[.ref l, .int k t], []⟩) (fun _ R z => z.heap.get? l = some { cls := .type "list", dict := dd, data := .seq its n, slots := sl } ∧
      R (.ok (.ret (Value.ref z.heap.objs.size))) { z with heap := z.heap.push { cls := Value.type "list", data := Data.seq (List.foldl (fun a b => a ++ b) #[] (List.replicate (if its.isEmpty = true then 0 else k.toNat) its)) }, toks := z.toks }) :=
  .of_wp fun prog w A R z hz => by
    obtain ⟨hp, gg, dg, tk, os⟩ := z
    obtain ⟨hg, hz⟩ := hz
    wp_walk using wpAny_loadPart' hg
    repeat (first
      | (refine wpAny_ite_false (decide_eq_false h0) ?_; wp_walk using wpAny_loadPart' hg)
      | (refine wpAny_ite_false (decide_eq_false h1) ?_; wp_walk using wpAny_loadPart' hg)
      | (refine wpAny_ite_false (decide_eq_false h2) ?_; wp_walk using wpAny_loadPart' hg)
      | (refine wpAny_ite_false (decide_eq_false (Nat.not_lt.mpr size)) ?_; wp_walk using wpAny_loadPart' hg))
    exact ⟨_, rfl, hz⟩
theorem irmulG (k : Int) (t : Tok) (l : Addr) (its : Array Value) (n : Nat) (dd : Option Addr) (sl : Array (Option Value)) :
    Meets (Builtin.«int.__rmul__» ⟨[.int k t, .ref l], []⟩) (fun _ R z => z.heap.get? l = some { cls := .type "list", dict := dd, data := .seq its n, slots := sl } ∧ R (.ok (.ret Value.notImplemented)) z) :=
  .of_wp fun prog w A R z hz => by
    obtain ⟨hp, gg, dg, tk, os⟩ := z
    obtain ⟨hg, hz⟩ := hz
    wp_walk using wpAny_loadPart' hg
    exact ⟨_, rfl, hz⟩
/-- a tuple once, or an empty one: itself -/
theorem tmulG1 (l : Addr) (its : Array Value) (n : Nat) (dd : Option Addr) (sl : Array (Option Value)) (k : Int) (t : Tok) (c0 : (decide (k < -(2 ^ 63)) || decide (k ≥ 2 ^ 63)) = false) (c1 : (its.isEmpty || k == 1) = true) :
    Meets (Builtin.«tuple.__mul__» ⟨[.ref l, .int k t], []⟩) (fun _ R z => z.heap.get? l = some { cls := .type "tuple", dict := dd, data := .seq its n, slots := sl } ∧ R (.ok (.ret (Value.ref l))) z) :=
  .of_wp fun prog w A R z hz => by
    obtain ⟨hp, gg, dg, tk, os⟩ := z
    obtain ⟨hg, hz⟩ := hz
    wp_walk using wpAny_loadPart' hg
    repeat (first
      | (refine wpAny_ite_false (decide_eq_false (by rw [c0]; exact Bool.false_ne_true)) ?_; wp_walk using wpAny_loadPart' hg)
      | (refine wpAny_ite_true (decide_eq_true c1) ?_; wp_walk using wpAny_loadPart' hg))
    exact ⟨_, rfl, hz⟩
/-- a tuple not once: the empty one -/
theorem tmulG0 (l : Addr) (its : Array Value) (n : Nat) (dd : Option Addr) (sl : Array (Option Value)) (k : Int) (t : Tok) (c0 : (decide (k < -(2 ^ 63)) || decide (k ≥ 2 ^ 63)) = false) (c1 : (its.isEmpty || k == 1) = false) (c2 : (decide (k ≤ 0) || its.isEmpty) = true) :
    Meets (Builtin.«tuple.__mul__» ⟨[.ref l, .int k t], []⟩) (fun _ R z => z.heap.get? l = some { cls := .type "tuple", dict := dd, data := .seq its n, slots := sl } ∧ R (.ok (.ret (Value.ref z.heap.objs.size))) { z with heap := z.heap.push { cls := Value.type "tuple", data := Data.seq #[] }, toks := z.toks }) :=
  .of_wp fun prog w A R z hz => by
    obtain ⟨hp, gg, dg, tk, os⟩ := z
    obtain ⟨hg, hz⟩ := hz
    wp_walk using wpAny_loadPart' hg
    repeat (first
      | (refine wpAny_ite_false (decide_eq_false (by rw [c0]; exact Bool.false_ne_true)) ?_; wp_walk using wpAny_loadPart' hg)
      | (refine wpAny_ite_false (decide_eq_false (by rw [c1]; exact Bool.false_ne_true)) ?_; wp_walk using wpAny_loadPart' hg)
      | (refine wpAny_ite_true (decide_eq_true c2) ?_; wp_walk using wpAny_loadPart' hg))
    exact ⟨_, rfl, hz⟩
section
variable {X : Cx}
theorem fold_flat (its : List Value) (m : Nat) : (List.foldl (fun a b => a ++ b) #[] (List.replicate m its.toArray)) = (List.replicate m its).flatten.toArray := by
  have q := foldl_rep its m []
  rw [List.nil_append] at q
  exact q
theorem op_repL : OpR X (binaryOp .Mult) (fun x y H Q => ∃ l k xs, x = .ref l ∧ y = .int k ∧ SqL X.K H l xs ∧ -(2 ^ 63) ≤ k ∧ k < 2 ^ 63 ∧ xs.length * k.toNat ≤ sizeLine ∧
    ∀ p, H p = none → Q (.ref p) (upd H p (.lst (List.replicate k.toNat xs).flatten))) := by
  intro pins s σ H x y v u Q I rx ry hq
  obtain ⟨l, k, xs, rfl, rfl, sq, k1, k2, room, q⟩ := hq
  cases rx
  obtain ⟨t, rfl⟩ := ry
  obtain ⟨its, r, ⟨⟨cls, dd, data, sl⟩, n, ho, hc, _, hd⟩, _⟩ := I.list sq
  simp only at hc hd
  subst hc hd
  have many : its.toArray.size * k.toNat ≤ sizeLine := by rw [List.size_toArray, ← r.length]; exact room
  have a1 : ¬ its.toArray.size * k.toNat > (2 ^ 63 - 1) / 8 := by
    have : (sizeLine : Nat) ≤ (2 ^ 63 - 1) / 8 := by decide
    omega
  have a2 : ¬ (!Builtin.List.listFitsIndex k) = true := by
    rw [fitsIndex_both k1 k2]
    exact Bool.false_ne_true
  have a3 : ¬ Builtin.List.listTooLong (its.toArray.size * k.toNat) = true := by
    rw [notLongL many]
    exact Bool.false_ne_true
  have flat : List.foldl (fun a b => a ++ b) #[] (List.replicate (if its.toArray.isEmpty = true then 0 else k.toNat) its.toArray) = (List.replicate k.toNat its).flatten.toArray := by
    rw [fold_flat]
    cases its with
    | nil => simp
    | cons c cs => rw [if_neg (by simp)]
  have len : (List.replicate k.toNat its).flatten.length ≤ sizeLine := by
    rw [PyProof.Rows.lm_len_rep_flat, Nat.mul_comm]
    rw [List.size_toArray] at many
    exact many
  refine wpAny_binaryOp_repeat_ref (T := "list") (U := "int") (by decide) ⟨_, ho, rfl⟩ (fun z => typeIs_int z k t) noFill_list_mul PySem.F.fills_int_mul PySem.F.slot_int_rmul repeat_list PySem.F.slot_int_index.lookup
    (call_meets PySem.F.slot_int_rmul (typeIs_int s k t) PySem.F.entry_int_rmul (PySem.F.args_int_rmul_2 _ _) (irmulG k t l its.toArray n dd sl)
      ⟨ho, rfl, ⟨_, ho, rfl⟩, call_meets PySem.F.slot_list_mul ⟨_, ho, rfl⟩ PySem.F.entry_list_mul (PySem.F.args_list_mul_2 _ _) (lmulG l its.toArray n dd sl k t a2 a1 a3 (by rw [flat, List.size_toArray]; exact len)) ⟨ho, ?_⟩⟩)
  rw [flat]
  exact ⟨.ref _, _, I.lnew (t' := s.toks) (r.rep k.toNat) (by rw [PyProof.Rows.lm_len_rep_flat, Nat.mul_comm]; exact room), rfl, q _ I.fresh⟩
/-- a tuple so many times, whatever the number -/
theorem op_repTA : OpR X (binaryOp .Mult) (fun x y H Q => ∃ l k xs, x = .ref l ∧ y = .int k ∧ SqT X.K H l xs ∧ -(2 ^ 62) ≤ k ∧ k ≤ 1000 ∧ xs.length ≤ 1000 ∧ (xs = [] ∨ k = 1 → Q (.ref l) H) ∧
    (¬ (xs = [] ∨ k = 1) → ∀ p, H p = none → Q (.ref p) (upd H p (.tup (List.replicate k.toNat xs).flatten)))) := by
  intro pins s σ H x y v u Q I rx ry hq
  obtain ⟨l, k, xs, rfl, rfl, sq, k0, k1, room, q1, q2⟩ := hq
  by_cases big : 2 ≤ k ∧ xs ≠ []
  · exact op_repT pins s σ H _ _ v u Q I rx ry ⟨l, k, xs, rfl, rfl, sq, big.2, big.1, k1, room, q2 (by rintro (z | z); exact big.2 z; omega)⟩
  cases rx
  obtain ⟨t, rfl⟩ := ry
  obtain ⟨its, r, ⟨⟨cls, dd, data, sl⟩, ho, hc, n, hd⟩, _⟩ := I.tuple sq
  simp only at hc hd
  subst hc hd
  have z0 : (decide (k < -(2 ^ 63)) || decide (k ≥ 2 ^ 63)) = false := by
    rw [decide_eq_false (by omega), decide_eq_false (by omega)] <;> rfl
  have ie : its.toArray.isEmpty = true ↔ xs = [] := by
    have := r.length
    cases its with
    | nil => cases r; simp
    | cons c cs => cases r; simp
  by_cases one : xs = [] ∨ k = 1
  · have z1 : (its.toArray.isEmpty || k == 1) = true := by
      rw [Bool.or_eq_true, ie]
      exact one.imp id fun e => by simp [e]
    refine wpAny_binaryOp_repeat_ref (T := "tuple") (U := "int") (by decide) ⟨_, ho, rfl⟩ (fun z => typeIs_int z k t) noFill_tuple_mul PySem.F.fills_int_mul PySem.F.slot_int_rmul repeat_tuple PySem.F.slot_int_index.lookup
      (call_meets PySem.F.slot_int_rmul (typeIs_int s k t) PySem.F.entry_int_rmul (PySem.F.args_int_rmul_2 _ _) (int_rmul_tuple k t l its.toArray n dd sl)
        ⟨ho, rfl, ⟨_, ho, rfl⟩, call_meets PySem.F.slot_tuple_mul ⟨_, ho, rfl⟩ PySem.F.entry_tuple_mul (PySem.F.args_tuple_mul_2 _ _) (tmulG1 l its.toArray n dd sl k t z0 z1) ⟨ho, ?_⟩⟩)
    exact ⟨.ref l, H, I, rfl, q1 one⟩
  · have ne : ¬ xs = [] := fun z => one (.inl z)
    have kl : k ≤ 0 := by
      have h1 : ¬ k = 1 := fun z => one (.inr z)
      have h2 : ¬ 2 ≤ k := fun z => big ⟨z, ne⟩
      omega
    have ie2 : its.toArray.isEmpty = false := by
      cases q : its.toArray.isEmpty with
      | false => rfl
      | true => exact absurd (ie.mp q) ne
    have z1 : (its.toArray.isEmpty || k == 1) = false := by
      rw [ie2, Bool.false_or]
      exact beq_eq_false_iff_ne.mpr (by omega)
    have z2 : (decide (k ≤ 0) || its.toArray.isEmpty) = true := by rw [decide_eq_true kl]; rfl
    refine wpAny_binaryOp_repeat_ref (T := "tuple") (U := "int") (by decide) ⟨_, ho, rfl⟩ (fun z => typeIs_int z k t) noFill_tuple_mul PySem.F.fills_int_mul PySem.F.slot_int_rmul repeat_tuple PySem.F.slot_int_index.lookup
      (call_meets PySem.F.slot_int_rmul (typeIs_int s k t) PySem.F.entry_int_rmul (PySem.F.args_int_rmul_2 _ _) (int_rmul_tuple k t l its.toArray n dd sl)
        ⟨ho, rfl, ⟨_, ho, rfl⟩, call_meets PySem.F.slot_tuple_mul ⟨_, ho, rfl⟩ PySem.F.entry_tuple_mul (PySem.F.args_tuple_mul_2 _ _) (tmulG0 l its.toArray n dd sl k t z0 z1 z2) ⟨ho, ?_⟩⟩)
    have e0 : (List.replicate k.toNat xs).flatten = [] := by
      have : k.toNat = 0 := by omega
      rw [this]; rfl
    have q3 := q2 one s.heap.objs.size (I.hok.fresh (Nat.le_refl _))
    rw [e0] at q3
    refine ⟨.ref s.heap.objs.size, _, I.laid (t' := s.toks) (o := .tup []) (fun b ob q => Heap.get?_push_of_some _ q) (Nat.le_refl _) ?_, rfl, q3⟩
    exact ⟨by simp, [], .nil, IsTup.new _ _⟩
end
end L2

/-! EvC: the operators: what the layer asks of a value is what the evaluator gives. -/
namespace Ev
open PySem PySem.Spec L2

/-- what is told of an exception: its number, its data; its class, its dict, in F and the heap -/
abbrev XRel := Nat → List PyData → Value → Option Addr → Hp → Hp → Prop

section
variable {K : PySem.W.Frag} {xr : XRel} [Wd]
/-- what must hold behind something that ends as r -/
def PostG (K : PySem.W.Frag) (xr : XRel) {α : Type} (B : BB) (Wx : WX) (m : List Addr) (F : Hp) (env : Vars) (σ : L2.St) (H : Hp) (r : R α) (P : α → Hq → List Addr → Hp → Hp → Prop) : Prop := match r with
  | .ok a h' => ∀ m' F' H', Ext m F H m' F' H' → SR K B m' F' env h' σ H' → P a h' m' F' H'
  | .ex c ds h' => ∀ m' F' H' cls dx, Ext m F H m' F' H' → HR K B.c m' F' h' H' → xr c ds cls dx F' H' → Wx cls dx σ H'
  | .bad => False
/-- .. where a value is asked for -/
def PV (K : PySem.W.Frag) (Q : VK) : W → Hq → List Addr → Hp → Hp → Prop := fun w _ m' F' H' => ∀ v, WR K m' F' v w → Q v H'
abbrev PostE (K : PySem.W.Frag) (xr : XRel) (B : BB) (Wx : WX) (m : List Addr) (F : Hp) (env : Vars) (σ : L2.St) (H : Hp) (r : R W) (Q : VK) : Prop := PostG K xr B Wx m F env σ H r (PV K Q)

/-- an expression's reading by its value -/
def tE (K : PySem.W.Frag) (xr : XRel) (B : BB) (Wx : WX) (f : Vars → Hq → R W) : TE := fun σ H Q => ∃ m F env h, SR K B m F env h σ H ∧ PostE K xr B Wx m F env σ H (f env h) Q
def tA (K : PySem.W.Frag) (xr : XRel) (B : BB) (Wx : WX) (f : Vars → Hq → R (List W)) : TA := fun σ H Q => ∃ m F env h, SR K B m F env h σ H ∧ PostG K xr B Wx m F env σ H (f env h) (fun ws _ m' F' H' => ∀ vs, WRs K m' F' vs ws → Q vs H')
def tT (K : PySem.W.Frag) (xr : XRel) (B : BB) (Wx : WX) (f : Vars → Hq → R W) : TT := fun σ H Q => ∃ m F env h, SR K B m F env h σ H ∧ PostG K xr B Wx m F env σ H (f env h) (fun w _ _ _ H' => ∃ k, w = .d (.bool k) ∧ Q k H')

section
variable {B : BB} {Wx : WX} {m : List Addr} {F H : Hp} {env : Vars} {h : Hq} {σ : L2.St} {Q : VK} {α β : Type}
theorem PostG.mono {r : R α} {P P' : α → Hq → List Addr → Hp → Hp → Prop} (p : PostG K xr B Wx m F env σ H r P) (i : ∀ a h1 m1 F1 H1, Ext m F H m1 F1 H1 → SR K B m1 F1 env h1 σ H1 → P a h1 m1 F1 H1 → P' a h1 m1 F1 H1) : PostG K xr B Wx m F env σ H r P' := by
  cases r with
  | ok a h' => exact fun m' F' H' e s => i a h' m' F' H' e s (p m' F' H' e s)
  | ex c ds h' => exact p
  | bad => exact p
theorem PostG.bind {r : R α} {f : α → Hq → R β} {P : β → Hq → List Addr → Hp → Hp → Prop} (p : PostG K xr B Wx m F env σ H (r.bind f) P) :
    PostG K xr B Wx m F env σ H r (fun a h1 m1 F1 H1 => PostG K xr B Wx m1 F1 env σ H1 (f a h1) P) := by
  cases r with
  | ok a h1 =>
    intro m1 F1 H1 e1 s1
    have p : PostG K xr B Wx m F env σ H (f a h1) P := p
    show PostG K xr B Wx m1 F1 env σ H1 (f a h1) P
    cases q : f a h1 with
    | ok b h2 =>
      rw [q] at p
      exact fun m2 F2 H2 e2 s2 => p m2 F2 H2 (e1.trans e2) s2
    | ex c ds h2 =>
      rw [q] at p
      exact fun m2 F2 H2 cls dx e2 s2 x => p m2 F2 H2 cls dx (e1.trans e2) s2 x
    | bad => rw [q] at p; exact p
  | ex c ds h1 => exact p
  | bad => exact p
theorem PostE.now {w : W} {v : V} (p : PostE K xr B Wx m F env σ H (.ok w h) Q) (s : SR K B m F env h σ H) (r : WR K m F v w) : Q v H := p m F H (.refl ..) s v r

theorem SR.newF (s : SR K B m F env h σ H) {u : HO} {p : Addr} (hp : H p = none) : SR K B m (upd F p u) env h σ (upd H p u) ∧ Ext m F H m (upd F p u) (upd H p u) := by
  obtain ⟨r, e⟩ := s.hr.newF (u := u) hp
  exact ⟨⟨r, s.el, fun i w z q => let ⟨v, h1, h2⟩ := s.var i w z q; ⟨v, h1, wr_mono e.ml e.sub h2⟩, fun x hx => let ⟨h1, h2, h3⟩ := s.exv x hx; ⟨h1, h2, x.mono _ _ e.sub h3⟩⟩, e⟩
theorem SR.ext (s : SR K B m F env h σ H) {m' : List Addr} {F' H' : Hp} {h' : Hq} (r : HR K B.c m' F' h' H') (e : Ext m F H m' F' H') : SR K B m' F' env h' σ H' :=
  ⟨r, s.el, fun i w z q => let ⟨v, h1, h2⟩ := s.var i w z q; ⟨v, h1, wr_mono e.ml e.sub h2⟩, fun x hx => let ⟨h1, h2, h3⟩ := s.exv x hx; ⟨h1, h2, x.mono _ _ e.sub h3⟩⟩
theorem PostE.newF {d : PyData} {u : HO} {p : Addr} (q : PostE K xr B Wx m F env σ H (.ok (.d d) h) Q) (s : SR K B m F env h σ H) (hp : H p = none) (r : Dp K (upd F p u) (.ref p) d) : Q (.ref p) (upd H p u) := by
  obtain ⟨s', e⟩ := s.newF (u := u) hp
  exact q _ _ _ e s' _ r
theorem PostE.newL {o : Ob} {u : HO} {p : Addr} (q : PostE K xr B Wx m F env σ H (.ok (.l h.length) (h ++ [o])) Q) (s : SR K B m F env h σ H) (hp : H p = none) (ho : OR K (m ++ [p]) F (upd H p u) p o) : Q (.ref p) (upd H p u) := by
  obtain ⟨r, e⟩ := s.hr.newL hp ho (fun _ _ _ => trivial)
  exact q _ _ _ e (s.ext r e) _ ⟨p, by rw [← s.hr.len]; simp, rfl⟩

theorem sq_new {p : Addr} {xs : List V} : SqL K (upd F p (.lst xs)) p xs := .inl (.inl upd_same)
theorem st_new {p : Addr} {xs : List V} : SqT K (upd F p (.tup xs)) p xs := .inl (.inl upd_same)
theorem dp_newL {p : Addr} {vs : List V} {ds : List PyData} (s : HR K B.c m F h H) (hp : H p = none) (d : DpAll K F vs ds) : Dp K (upd F p (.lst vs)) (.ref p) (.list ds) :=
  .lst sq_new (dps_mono (.upd (s.freeF hp)) _ _ d)
theorem dp_newT {p : Addr} {vs : List V} {ds : List PyData} (s : HR K B.c m F h H) (hp : H p = none) (d : DpAll K F vs ds) : Dp K (upd F p (.tup vs)) (.ref p) (.tuple ds) :=
  .tup st_new (dps_mono (.upd (s.freeF hp)) _ _ d)

/-- a value, read now -/
inductive Now (K : PySem.W.Frag) (F H : Hp) : V → PyData → Prop
  | now {v : V} {d : PyData} : Dp K F v d → Now K F H v d
  | lst {a : Addr} {vs : List V} {ds : List PyData} : H a = some (.lst vs) → DpAll K F vs ds → Now K F H (.ref a) (.list ds)
theorem now_of (s : HR K B.c m F h H) {w : W} {v : V} {d : PyData} (r : WR K m F v w) (e : toD h w = some d) : Now K F H v d := by
  cases w with
  | x _ _ => exact r.elim
  | d x => simp only [toD, Option.some.injEq] at e; subst e; exact .now r
  | l n =>
    obtain ⟨a, em, rfl⟩ := r
    simp only [toD] at e
    split at e
    · rename_i xs eo
      cases e
      obtain ⟨f, vs, eH, dd⟩ := s.ob n _ a eo em
      exact .lst eH dd
    · cases e
theorem toDn_dp (s : HR K B.c m F h H) : ∀ (k : Nat) {w : W} {v : V} {d : PyData}, WR K m F v w → toDn k h w = some d → Dp K H v d
  | _, .d x, v, d, r, e => by
    have e : some x = some d := by cases ‹Nat› <;> exact e
    cases e
    exact dp_mono s.sub _ _ r
  | _, .x _ _, v, d, r, e => r.elim
  | 0, .l n, v, d, r, e => by simp [toDn] at e
  | k + 1, .l n, v, d, r, e => by
    obtain ⟨a, em, rfl⟩ := r
    simp only [toDn] at e
    split at e
    · rename_i xs eo
      cases e
      obtain ⟨f, vs, eH, dd⟩ := s.ob n _ a eo em
      exact .lst (.of eH) (dps_mono s.sub _ _ dd)
    · rename_i ws eo
      obtain ⟨f, vs, eH, dd⟩ := s.ob n _ a eo em
      rw [Option.map_eq_some_iff] at e
      obtain ⟨ds, e, rfl⟩ := e
      refine .lst (.of eH) ?_
      clear eH eo
      induction dd generalizing ds with
      | nil => simp [allO] at e; subst e; exact .nil
      | cons h1 h2 ih =>
        rename_i w ws
        rw [List.map_cons] at e
        cases q : toDn k h w with
        | none => rw [q] at e; cases e
        | some x =>
          rw [q] at e
          simp only [allO, Option.map_eq_some_iff] at e
          obtain ⟨ds, e, rfl⟩ := e
          exact .cons (toDn_dp s k h1 q) (ih ds e)
    · cases e
theorem toDD_dp (s : HR K B.c m F h H) {w : W} {v : V} {d : PyData} (r : WR K m F v w) (e : toDD h w = some d) : Dp K H v d := toDn_dp s 3 r e
theorem Now.dp {v : V} {d : PyData} (n : Now K F H v d) (le : HpLe F H) : Dp K H v d := by
  cases n with
  | now r => exact dp_mono le _ _ r
  | lst e r => exact .lst (.of e) (dps_mono le _ _ r)
theorem Now.list {v : V} {ds : List PyData} (n : Now K F H v (.list ds)) (le : HpLe F H) : ∃ a vs, v = .ref a ∧ SqL K H a vs ∧ DpAll K F vs ds := by
  cases n with
  | now r =>
    cases r with
    | lst h1 h2 => exact ⟨_, _, rfl, le.sql h1, h2⟩
  | lst e r => exact ⟨_, _, rfl, .of e, r⟩
theorem Now.tuple {v : V} {ds : List PyData} (n : Now K F H v (.tuple ds)) (le : HpLe F H) : ∃ a vs, v = .ref a ∧ SqT K H a vs ∧ DpAll K F vs ds ∧ Dp K F v (.tuple ds) := by
  cases n with
  | now r =>
    have r' := r
    cases r with
    | tup h1 h2 => exact ⟨_, _, rfl, le.sqt h1, h2, r'⟩
theorem Now.int {v : V} {i : Int} (n : Now K F H v (.int i)) : v = .int i := by
  cases n with
  | now r => cases r; rfl
theorem Now.str {v : V} {i : Str} (n : Now K F H v (.str i)) : v = .str i := by
  cases n with
  | now r => cases r; rfl
end

/-! ### operators -/
theorem sOk_ok {i j : Int} (h : sOk i j = true) : CMul i j := by unfold sOk at h; simpa [CMul] using h
theorem divOk_ok {j : Int} (h : divOk j = true) : j ≠ 0 ∧ j.natAbs < 1073741824 := by unfold divOk at h; exact of_decide_eq_true h
theorem repOk_ok {n : Nat} {k : Int} (h : repOk n k = true) : -(2 ^ 62) ≤ k ∧ k < 2 ^ 62 ∧ n * k.toNat ≤ SZ := by unfold repOk at h; exact of_decide_eq_true h
theorem repTOk_ok {n : Nat} {k : Int} (h : repTOk n k = true) : n ≤ 1000 ∧ -(2 ^ 62) ≤ k ∧ k ≤ 1000 := by unfold repTOk at h; exact of_decide_eq_true h
theorem powOk_ok {i j : Int} (h : powOk i j = true) : 0 ≤ j ∧ j ≤ 1000000 ∧ i.natAbs < 2 ^ 64 := by unfold powOk at h; exact of_decide_eq_true h
section
variable {X : Cx} {B : BB} {Wx : WX}
theorem op_catL : OpR X (binaryOp .Add) (fun x y H Q => ∃ l b xs zs, x = .ref l ∧ y = .ref b ∧ SqL X.K H l xs ∧ SqL X.K H b zs ∧ xs.length + zs.length ≤ sizeLine ∧ ∀ p, H p = none → Q (.ref p) (upd H p (.lst (xs ++ zs)))) := by
  intro pins s σ H x y v u Q I rx ry h
  obtain ⟨l, b, xs, zs, rfl, rfl, hH, hB, hz, q⟩ := h
  cases rx
  cases ry
  obtain ⟨its, r, ⟨⟨cls, dd, data, sl⟩, n, ho, hc, _, hd⟩, _⟩ := I.list hH
  obtain ⟨its2, r2, ⟨⟨cls2, dd2, data2, sl2⟩, n2, ho2, hc2, _, hd2⟩, _⟩ := I.list hB
  simp only at hc hd hc2 hd2
  subst hc hd hc2 hd2
  have e : its.toArray ++ its2.toArray = (its ++ its2).toArray := by simp
  refine concat_meets ⟨_, ho, rfl⟩ ⟨_, ho2, rfl⟩ noFill_list_add seq_list_add PySem.F.slot_list_add PySem.F.entry_list_add (PySem.F.args_list_add_2 _ _) (PyProof.Rows.list_addW l b its.toArray its2.toArray n n2 dd dd2 sl sl2 (by rw [List.size_toArray, List.size_toArray, ← r.length, ← r2.length]; exact hz)) ⟨ho, ho2, ?_⟩
  rw [e]
  exact ⟨.ref _, _, I.lnew (t' := s.toks) (r.append r2) (by rw [List.length_append]; omega), rfl, q _ I.fresh⟩

theorem op_mulS : OpR X (binaryOp .Mult) (fun x y H Q => ∃ i k, x = .str i ∧ y = .int k ∧ -(2 ^ 62) ≤ k ∧ k < 2 ^ 62 ∧ i.length * k.toNat ≤ sizeLine ∧ Q (.str (repS i k)) H) := by
  intro pins s σ H x y v u Q I rx ry h
  obtain ⟨i, k, rfl, rfl, h1, h2, h3, q⟩ := h
  obtain ⟨t, rfl⟩ := rx
  obtain ⟨t', rfl⟩ := ry
  have sl : sizeLine = 16777216 := by rw [PySem.sizeLine_eq]
  have tl : Builtin.Str.tooLong (i.length * k.toNat) = false := by
    unfold Builtin.Str.tooLong
    rw [decide_eq_false_iff_not]
    omega
  refine PySem.P.mul_str (by
    rw [decide_eq_false (by omega : ¬ k < -(2 ^ 63 : Int)), decide_eq_false (by omega : ¬ k ≥ 2 ^ 63)]; rfl) (fun h1 _ z => ?_) (fun _ _ => tl) ?_
  · have e : (i.length : Int) * k ≤ 16777216 := by
      have e1 : ((i.length * k.toNat : Nat) : Int) = (i.length : Int) * k := by
        rw [Int.natCast_mul, Int.toNat_of_nonneg (by omega)]
      omega
    have : (i.length : Int) ≤ (2 ^ 63 - 1) / k := (Int.le_ediv_iff_mul_le (by omega)).mpr (by omega)
    omega
  · unfold repS at q
    by_cases c : k < 1
    · rw [if_pos c] at q ⊢
      exact ⟨by decide, .str Str.empty, H, I.tok _, ⟨_, rfl⟩, q⟩
    · rw [if_neg c] at q ⊢
      by_cases c2 : (k == 1 || i.length == 0) = true
      · rw [if_pos c2] at q ⊢
        exact ⟨.str i, H, I, ⟨_, rfl⟩, q⟩
      · rw [if_neg c2] at q ⊢
        exact ⟨PySem.fits_reps tl, .str _, H, I.tok _, ⟨_, rfl⟩, q⟩
/-- the reading of an operator: as the evaluator says -/
def rOp (K : PySem.W.Frag) (xr : XRel) (B : BB) (Wx : WX) (f : W → W → Hq → R W) : R2 := fun x y H Q => ∃ m F env h σ v w, SR K B m F env h σ H ∧ WR K m F x v ∧ WR K m F y w ∧ PostE K xr B Wx m F env σ H (f v w h) Q

theorem op2_cases {f : PyData → PyData → Option PyData} {v w : W} {h : Hq} {m : List Addr} {F H : Hp} {env : Vars} {σ : L2.St} {Q : VK} (p : PostE K xr B Wx m F env σ H (op2 f v w h) Q) :
    ∃ d e r, toD h v = some d ∧ toD h w = some e ∧ f d e = some r ∧ PostE K xr B Wx m F env σ H (.ok (.d r) h) Q := by
  unfold op2 at p
  split at p
  · rename_i d e h1 h2
    unfold liftO at p
    split at p
    · rename_i r h3
      exact ⟨d, e, r, h1, h2, h3, p⟩
    · exact p.elim
  · exact p.elim
theorem sz_eq : (SZ : Nat) = sizeLine := by rw [PySem.sizeLine_eq]; rfl

theorem op_bin (o : Operator) : OpR X (binaryOp o) (rOp X.K xr B Wx (op2 (evBin o))) := by
  intro pins s σ H x y v u Q I rx ry hq
  obtain ⟨m, F, env, h, σ', w1, w2, S, r1, r2, p⟩ := hq
  obtain ⟨d, e, r, t1, t2, ev, p⟩ := op2_cases p
  have n1 := now_of S.hr r1 t1
  have n2 := now_of S.hr r2 t2
  have fin : ∀ {v : V}, Dp X.K F v r → Q v H := fun q => PostE.now p S q
  have szE := sz_eq
  cases o <;> cases d <;> cases e <;> simp only [evBin, reduceCtorEq] at ev
  -- int + int, str + str, list + list, tuple + tuple
  case Add.int.int i j => cases n1.int; cases n2.int; cases ev; exact op_add pins s σ H _ _ v u Q I rx ry ⟨i, j, rfl, rfl, fin (.int _)⟩
  case Add.str.str i j =>
    split at ev
    · cases n1.str; cases n2.str; cases ev
      exact op_add_str pins s σ H _ _ v u Q I rx ry ⟨i, j, rfl, rfl, by omega, fin (.str _)⟩
    · cases ev
  case Add.list.list i j =>
    split at ev
    · cases ev
      obtain ⟨a, vs, rfl, s1, d1⟩ := n1.list S.hr.sub
      obtain ⟨b, us, rfl, s2, d2⟩ := n2.list S.hr.sub
      have l1 := d1.length
      have l2 := d2.length
      exact op_catL pins s σ H _ _ v u Q I rx ry ⟨a, b, vs, us, rfl, rfl, s1, s2, by omega, fun q hq => PostE.newF p S hq (dp_newL S.hr hq (d1.app d2))⟩
    · cases ev
  case Add.tuple.tuple i j =>
    split at ev
    · cases ev
      obtain ⟨a, vs, rfl, s1, d1, e1⟩ := n1.tuple S.hr.sub
      obtain ⟨b, us, rfl, s2, d2, e2⟩ := n2.tuple S.hr.sub
      have l1 := d1.length
      have l2 := d2.length
      refine op_catA pins s σ H _ _ v u Q I rx ry ⟨a, b, vs, us, rfl, rfl, s1, s2, by omega, fun z => fin ?_, fun _ z => fin ?_, fun _ _ q hq => PostE.newF p S hq (dp_newT S.hr hq (d1.app d2))⟩
      · subst z
        cases d1
        simpa using e2
      · subst z
        cases d2
        simpa using e1
    · cases ev
  case Sub.int.int i j => cases n1.int; cases n2.int; cases ev; exact op_sub pins s σ H _ _ v u Q I rx ry ⟨i, j, rfl, rfl, fin (.int _)⟩
  case Mult.int.int i j =>
    split at ev
    · rename_i hc
      cases n1.int; cases n2.int; cases ev
      exact op_mul pins s σ H _ _ v u Q I rx ry ⟨i, j, rfl, rfl, sOk_ok hc, fin (.int _)⟩
    · cases ev
  case Mult.str.int i j =>
    split at ev
    · rename_i hc
      cases n1.str; cases n2.int; cases ev
      have hc := repOk_ok hc
      exact op_mulS pins s σ H _ _ v u Q I rx ry ⟨i, j, rfl, rfl, hc.1, by omega, by omega, fin (.str _)⟩
    · cases ev
  case Mult.list.int i j =>
    split at ev
    · rename_i hc
      cases n2.int; cases ev
      obtain ⟨a, vs, rfl, s1, d1⟩ := n1.list S.hr.sub
      have hc := repOk_ok hc
      have l1 := d1.length
      exact op_repL pins s σ H _ _ v u Q I rx ry ⟨a, j, vs, rfl, rfl, s1, by omega, by omega, by rw [l1]; omega, fun q hq => PostE.newF p S hq (dp_newL S.hr hq (d1.rep _))⟩
    · cases ev
  case Mult.tuple.int i j =>
    split at ev
    · rename_i hc
      cases n2.int; cases ev
      obtain ⟨a, vs, rfl, s1, d1, e1⟩ := n1.tuple S.hr.sub
      have hc := repTOk_ok hc
      have l1 := d1.length
      refine op_repTA pins s σ H _ _ v u Q I rx ry ⟨a, j, vs, rfl, rfl, s1, hc.2.1, hc.2.2, by omega, fun z => fin ?_, fun z q hq => PostE.newF p S hq (dp_newT S.hr hq (d1.rep _))⟩
      rcases z with z | z
      · subst z
        have hi : i = [] := by cases d1; rfl
        subst hi
        have e0 : repL ([] : List PyData) j = [] := by unfold repL; simp
        rw [e0]; exact e1
      · subst z
        have e0 : repL i 1 = i := by unfold repL; simp
        rw [e0]; exact e1
    · cases ev
  case FloorDiv.int.int i j =>
    split at ev
    · rename_i hc
      cases n1.int; cases n2.int; cases ev
      exact op_fdivN pins s σ H _ _ v u Q I rx ry ⟨i, j, rfl, rfl, divOk_ok hc, fin (.int _)⟩
    · cases ev
  case Mod.int.int i j =>
    split at ev
    · rename_i hc
      cases n1.int; cases n2.int; cases ev
      exact op_modN pins s σ H _ _ v u Q I rx ry ⟨i, j, rfl, rfl, hc, fin (.int _)⟩
    · cases ev
  case Pow.int.int i j =>
    split at ev
    · rename_i hc
      cases n1.int; cases n2.int; cases ev
      exact op_pow pins s σ H _ _ v u Q I rx ry ⟨i, j, rfl, rfl, powOk_ok hc, fin (.int _)⟩
    · cases ev
  case LShift.int.int i j =>
    split at ev
    · rename_i hc
      cases n1.int; cases n2.int; cases ev
      exact op_shl pins s σ H _ _ v u Q I rx ry ⟨i, j, rfl, rfl, powOk_ok hc, fin (.int _)⟩
    · cases ev

end
/-! ### dicts -/
mutual
theorem nkey_is {h : Heap} : ∀ (d : PyData) (v : Value) (as : List Addr) (k : NestedKey), Reads h v d as → nkey d = some k → NestedIs h k v
  | .none, _, _, _, r, e => by cases r; simp only [nkey, Option.some.injEq] at e; subst e; exact .none
  | .bool b, _, _, _, r, e => by cases r; simp only [nkey, Option.some.injEq] at e; subst e; exact .bool rfl
  | .int i, _, _, _, r, e => by cases r; simp only [nkey, Option.some.injEq] at e; subst e; exact .int _ _
  | .str x, _, _, _, r, e => by cases r; simp only [nkey, Option.some.injEq] at e; subst e; exact .text _ _
  | .tuple xs, _, _, _, r, e => by
    cases r with
    | tuple h1 h2 h3 h4 =>
      simp only [nkey, Option.map_eq_some_iff] at e
      obtain ⟨ks, e, rfl⟩ := e
      exact .tup h1 h2 h3 (nkeys_is _ _ _ _ h4 e)
  | .list _, _, _, _, _, e => by simp [nkey] at e
  | .dict _, _, _, _, _, e => by simp [nkey] at e
theorem nkeys_is {h : Heap} : ∀ (ds : List PyData) (vs : List Value) (as : List Addr) (ks : List NestedKey), ReadsAll h vs ds as → nkeys ds = some ks → NestedAll h ks vs
  | [], _, _, _, r, e => by cases r; simp only [nkeys, Option.some.injEq] at e; subst e; exact .nil
  | d :: ds, _, _, _, r, e => by
    cases r with
    | cons h1 h2 =>
      simp only [nkeys] at e
      split at e
      · rename_i k ks e1 e2
        cases e
        exact .cons (nkey_is _ _ _ _ h1 e1) (nkeys_is _ _ _ _ h2 e2)
      · cases e
end
mutual
theorem nkey_depth : ∀ (d : PyData) (k : NestedKey), nkey d = some k → k.depth = d.depth
  | .none, _, e => by simp only [nkey, Option.some.injEq] at e; subst e; rfl
  | .bool b, _, e => by simp only [nkey, Option.some.injEq] at e; subst e; rfl
  | .int i, _, e => by simp only [nkey, Option.some.injEq] at e; subst e; rfl
  | .str x, _, e => by simp only [nkey, Option.some.injEq] at e; subst e; rfl
  | .tuple xs, _, e => by
    simp only [nkey, Option.map_eq_some_iff] at e
    obtain ⟨ks, e, rfl⟩ := e
    simp only [NestedKey.depth, PyData.depth, nkeys_depth _ _ e]
  | .list _, _, e => by simp [nkey] at e
  | .dict _, _, e => by simp [nkey] at e
theorem nkeys_depth : ∀ (ds : List PyData) (ks : List NestedKey), nkeys ds = some ks → NestedKey.depthAll ks = PyData.depthAll ds
  | [], _, e => by simp only [nkeys, Option.some.injEq] at e; subst e; rfl
  | d :: ds, _, e => by
    simp only [nkeys] at e
    split at e
    · rename_i k ks e1 e2
      cases e
      simp only [NestedKey.depthAll, PyData.depthAll, nkey_depth _ _ e1, nkeys_depth _ _ e2]
    · cases e
end
theorem isKey_ok {d : PyData} (h : isKey d = true) : ∃ xs k, d = .tuple xs ∧ nkey d = some k ∧ d.depth ≤ 8 := by
  cases d <;> simp only [isKey, Bool.false_eq_true] at h
  rename_i xs
  simp only [Bool.and_eq_true, decide_eq_true_eq, Option.isSome_iff_exists] at h
  obtain ⟨⟨k, e⟩, hd⟩ := h
  exact ⟨xs, k, rfl, e, hd⟩
section
variable {K : PySem.W.Frag} {F : Hp}
theorem DK.get {kvs : List (PyData × PyData)} {es : List (NestedKey × Addr × Value)} (h : DK K F kvs es) {d : PyData} {k : NestedKey} (e : nkey d = some k) :
    match dget kvs d with
    | some x => ∃ p v, atKey es k = some p ∧ RelV v p.2 ∧ Dp K F v x
    | none => atKey es k = none := by
  induction h with
  | nil => simp [dget, atKey]
  | cons h1 h2 h3 h4 h5 h6 ih =>
    rename_i d' x r k' a u v s
    have ek : keyEq d' d = decide (k' = k) := by
      unfold keyEq
      rw [h1, e]
      simp
    by_cases hk : k' = k
    · subst hk
      have e1 : dget ((d', x) :: r) d = some x := by simp [dget, ek]
      have e2 : atKey ((k', a, u) :: s) k' = some (a, u) := by simp [atKey]
      rw [e1]
      exact ⟨_, v, e2, h4, h5⟩
    · have e1 : dget ((d', x) :: r) d = dget r d := by simp [dget, ek, hk]
      have e2 : atKey ((k', a, u) :: s) k = atKey s k := by simp [atKey, hk]
      rw [e1, e2]
      exact ih
theorem DK.put {kvs : List (PyData × PyData)} {es : List (NestedKey × Addr × Value)} (h : DK K F kvs es) {d y : PyData} {k : NestedKey} {b : Addr} {z : V} {u : Value} (e : nkey d = some k) (hd : d.depth ≤ 8) (hb : Dp K F (.ref b) d) (r : RelV z u) (ry : Dp K F z y) :
    DK K F (dput kvs d y) (storedH es k b u) := by
  have g := h.get e
  have hm : ∀ {kvs : List (PyData × PyData)} {es : List (NestedKey × Addr × Value)}, DK K F kvs es → DK K F (kvs.map fun p => if keyEq p.1 d then (p.1, y) else p) (es.map (putAt k u)) := by
    intro kvs es h
    induction h with
    | nil => exact .nil
    | cons h1 h2 h3 h4 h5 h6 ih =>
      rename_i d' x r' k' a u' v s
      have ek : keyEq d' d = decide (k' = k) := by
        unfold keyEq
        rw [h1, e]
        simp
      rw [List.map_cons, List.map_cons]
      by_cases hk : k' = k
      · have e1 : (if keyEq d' d = true then (d', y) else (d', x)) = (d', y) := by simp [ek, hk]
        have e2 : putAt k u (k', a, u') = (k', a, u) := by simp [putAt, hk]
        show DK K F ((if keyEq d' d = true then (d', y) else (d', x)) :: _) (putAt k u (k', a, u') :: _)
        rw [e1, e2]
        exact .cons h1 h2 h3 r ry ih
      · have e1 : (if keyEq d' d = true then (d', y) else (d', x)) = (d', x) := by simp [ek, hk]
        have e2 : putAt k u (k', a, u') = (k', a, u') := by simp [putAt, hk]
        show DK K F ((if keyEq d' d = true then (d', y) else (d', x)) :: _) (putAt k u (k', a, u') :: _)
        rw [e1, e2]
        exact .cons h1 h2 h3 h4 h5 ih
  have ha : ∀ {kvs : List (PyData × PyData)} {es : List (NestedKey × Addr × Value)}, DK K F kvs es → DK K F (kvs ++ [(d, y)]) (es ++ [(k, b, u)]) := by
    intro kvs es h
    induction h with
    | nil => exact .cons e hb hd r ry .nil
    | cons h1 h2 h3 h4 h5 h6 ih => exact .cons h1 h2 h3 h4 h5 ih
  unfold dput
  cases q : dget kvs d with
  | some x =>
    rw [q] at g
    obtain ⟨p, v, e1, _⟩ := g
    rw [storedH_old e1, Option.isSome_some, if_pos rfl]
    exact hm h
  | none =>
    rw [q] at g
    rw [storedH_new g, Option.isSome_none, if_neg (by simp)]
    exact ha h
theorem DK.keys {kvs : List (PyData × PyData)} {es : List (NestedKey × Addr × Value)} (h : DK K F kvs es) : ∀ x ∈ es, ∃ d, nkey d = some x.1 ∧ Dp K F (.ref x.2.1) d ∧ d.depth ≤ 8 := by
  induction h with
  | nil => intro x hx; simp at hx
  | cons h1 h2 h3 h4 h5 h6 ih =>
    intro x hx
    rcases List.mem_cons.mp hx with e | hx
    · subst e; exact ⟨_, h1, h2, h3⟩
    · exact ih x hx
end
section
variable {X : Cx} {pins : List (Addr × Obj)} {σ : L2.St} {F H : Hp} {s : Shared} {a : Addr} {A : Around} {E : Value → Shared → Prop} {kvs : List (PyData × PyData)} {es : List (NestedKey × Addr × Value)}
theorem dk_is (I : Inv X pins σ H s) (le : HpLe F H) {d : PyData} {k : NestedKey} {b : Addr} (e : nkey d = some k) (hd : d.depth ≤ 8) (r : Dp X.K F (.ref b) d) : (nestedKind X.prog X.w).is s.heap k b := by
  obtain ⟨as, q⟩ := Dp.reads I d (.ref b) (.ref b) (dp_mono le _ _ r) rfl
  exact ⟨nkey_is _ _ _ _ q e, by rw [nkey_depth _ _ e]; exact hd⟩
/-- the dict's object, as the library tells it -/
theorem dk_of (hw : X.w = Wd.w) (I : Inv X pins σ H s) (le : HpLe F H) (e : H a = some (dctO a es)) (d : DK X.K F kvs es) (nd : (es.map (·.1)).Nodup) : s.heap.DictOfH (nestedKind X.prog X.w) a es := by
  have ok : ObjOk X.prog X.w H s.heap a (dctO a es) := I.hok a _ e
  obtain ⟨⟨o, es', ep, h1, h2, h3, h4⟩, _, _⟩ := ok
  refine ⟨o, es', ep, h1, h2, h3, ?_, fun x hx => ?_, nd⟩
  · rw [h4, ← hw]; rfl
  · obtain ⟨d, e1, e2, e3⟩ := d.keys x hx
    exact dk_is I le e1 e3 e2
theorem dk_ok (hw : X.w = Wd.w) {h' : Heap} {es : List (NestedKey × Addr × Value)} {H' : Hp} (d : h'.DictOfH (nestedKind X.prog X.w) a es) : ObjOk X.prog X.w H' h' a (dctO a es) := by
  obtain ⟨o, es', ep, h1, h2, h3, h4, _, _⟩ := d
  refine ⟨⟨o, es', ep, h1, h2, h3, ?_⟩, ⟨o, h1⟩, fun g1 g2 ⟨o, es', ep, k1, k2, k3, k4⟩ k => ⟨o, es', ep, k o k1, k2, k3, k4⟩⟩
  rw [h4, hw]; rfl
theorem dk_room (hu : X.A.units + 200 < cLine) : (nestedKind X.prog X.w).room X.A.in1 := by
  show X.A.units + 1 + 8 < cLine
  omega
theorem dk_in {Q : VK} (hw : X.w = Wd.w) (hu : X.A.units + 200 < cLine) (I : Inv X pins σ H s) (le : HpLe F H) (e : H a = some (dctO a es)) (d : DK X.K F kvs es) (nd : (es.map (·.1)).Nodup) (hs : (a == sysModules) = false) {y : PyData} {k : NestedKey} {b : Addr} (ek : nkey y = some k) (hd : y.depth ≤ 8) (r : Dp X.K F (.ref b) y)
    (q : Q (.bl (dget kvs y).isSome) H) : wpAny (model X.prog X.w) X.A (compareOp .In (.ref b) (.ref a)) (EP X pins σ Q) X.xe s := by
  refine wpAny_in_heap (dk_room hu) (dk_is I le ek hd r) hs (dk_of hw I le e d nd) ?_
  have g := d.get ek
  cases z : dget kvs y with
  | some x =>
    rw [z] at g q
    obtain ⟨p, v, e1, _⟩ := g
    rw [e1]
    exact ⟨.bl true, H, I.tok _, rfl, q⟩
  | none =>
    rw [z] at g q
    rw [g]
    exact ⟨.bl false, H, I.tok _, rfl, q⟩
theorem dk_notin {Q : VK} (hw : X.w = Wd.w) (hu : X.A.units + 200 < cLine) (I : Inv X pins σ H s) (le : HpLe F H) (e : H a = some (dctO a es)) (d : DK X.K F kvs es) (nd : (es.map (·.1)).Nodup) (hs : (a == sysModules) = false) {y : PyData} {k : NestedKey} {b : Addr} (ek : nkey y = some k) (hd : y.depth ≤ 8) (r : Dp X.K F (.ref b) y)
    (q : Q (.bl (!(dget kvs y).isSome)) H) : wpAny (model X.prog X.w) X.A (compareOp .NotIn (.ref b) (.ref a)) (EP X pins σ Q) X.xe s := by
  refine PyProof.Rows.wpAny_notIn_heap (dk_room hu) (dk_is I le ek hd r) hs (dk_of hw I le e d nd) ?_
  have g := d.get ek
  cases z : dget kvs y with
  | some x =>
    rw [z] at g q
    obtain ⟨p, v, e1, _⟩ := g
    rw [e1]
    exact ⟨.bl false, H, I.tok _, rfl, q⟩
  | none =>
    rw [z] at g q
    rw [g]
    exact ⟨.bl true, H, I.tok _, rfl, q⟩
end
/-! ### comparisons -/
section
variable {X : Cx} {B : BB} {Wx : WX}
theorem str_one {x : Str} (h : x.length = 1) : x = ⟨#[x.cps.getD 0 0]⟩ := by
  obtain ⟨⟨l⟩⟩ := x
  have h : l.length = 1 := h
  rcases l with _ | ⟨c, _ | ⟨c2, l⟩⟩
  · simp at h
  · rfl
  · simp at h
theorem in_one (x y : Str) (h : x.length = 1) : (!(Builtin.Str.occurrences y x 0 y.length 1).isEmpty) = y.cps.contains (x.cps.getD 0 0) := by
  rw [str_one h, StrLaws.found_one]
  simp [Array.contains_eq_mem]
theorem dkiOf_ok {h : Hq} {w : W} {kvs : List (Int × PyData)} (e : dkiOf h w = some kvs) : ∃ n, w = .l n ∧ h[n]? = some (.dki kvs) := by
  unfold dkiOf at e
  split at e
  · split at e
    · rename_i n _ k eo
      cases e
      exact ⟨_, rfl, eo⟩
    · cases e
  · cases e
theorem op_cmp (hw : X.w = Wd.w) (hu : X.A.units + 200 < cLine) (o : CmpOp) : OpR X (compareOp o) (rOp X.K xr B Wx (cmpW o)) := by
  intro pins s σ H x y v u Q I rx ry hq
  obtain ⟨m, F, env, h, σ', w1, w2, S, r1, r2, p⟩ := hq
  have fin : ∀ {v : V} {r : PyData}, Dp X.K F v r → PostE X.K xr B Wx m F env σ' H (.ok (.d r) h) Q → Q v H := fun q p => PostE.now p S q
  unfold cmpW at p
  split at p
  · rename_i kvs ed
    unfold dctOf at ed
    split at ed
    · rename_i n
      split at ed
      · rename_i kvs' eo
        cases ed
        obtain ⟨a, em, rfl⟩ := r2
        cases ry
        obtain ⟨fa, es, eH, dk, nd, hs, hl⟩ := S.hr.ob n _ a eo em
        split at p
        · rename_i k
          split at p
          · rename_i hk
            obtain ⟨xs, nk, rfl, ek, hd⟩ := isKey_ok hk
            have r1 : Dp X.K F x (.tuple xs) := r1
            have r1' := r1
            cases r1 with
            | tup h1 h2 =>
              cases rx
              exact dk_in hw hu I S.hr.sub eH dk nd hs ek hd r1' (fin (.bl _) p)
          · exact p.elim
        · rename_i k
          split at p
          · rename_i hk
            obtain ⟨xs, nk, rfl, ek, hd⟩ := isKey_ok hk
            have r1 : Dp X.K F x (.tuple xs) := r1
            have r1' := r1
            cases r1 with
            | tup h1 h2 =>
              cases rx
              exact dk_notin hw hu I S.hr.sub eH dk nd hs ek hd r1' (fin (.bl _) p)
          · exact p.elim
        · exact p.elim
      · cases ed
    · cases ed
  split at p
  rotate_left
  · unfold cmpI at p
    split at p
    rotate_left
    · exact p.elim
    rename_i kvs ed
    obtain ⟨n, rfl, eo⟩ := dkiOf_ok ed
    obtain ⟨a, em, rfl⟩ := r2
    cases ry
    obtain ⟨fa, vs, eH, di, hl⟩ := S.hr.ob n _ a eo em
    split at p
    · rename_i k _
      have r1 : Dp X.K F x (.int k) := r1
      cases r1
      have g := di.get k
      refine d_in (by show X.A.units + 1 < cLine; omega) I (DGet.k (k := .inl k) eH) rx fun s' I' => ?_
      refine ⟨.bl (iget kvs k).isSome, H, I', ?_, fin (.bl _) p⟩
      cases z : iget kvs k with
      | some y => rw [z] at g; obtain ⟨u', e1, _⟩ := g; rw [e1]; rfl
      | none => rw [z] at g; rw [g]; rfl
    · rename_i k _
      have r1 : Dp X.K F x (.int k) := r1
      cases r1
      have g := di.get k
      refine d_notIn (by show X.A.units + 1 < cLine; omega) I (DGet.k (k := .inl k) eH) rx fun s' I' => ?_
      refine ⟨.bl (!(iget kvs k).isSome), H, I', ?_, fin (.bl _) p⟩
      cases z : iget kvs k with
      | some y => rw [z] at g; obtain ⟨u', e1, _⟩ := g; rw [e1]; rfl
      | none => rw [z] at g; rw [g]; rfl
    · exact p.elim
  rename_i d e t1 t2
  unfold liftO at p
  split at p
  rotate_left
  · exact p.elim
  rename_i r ev
  have d1 := toDD_dp S.hr r1 t1
  have d2 := toDD_dp S.hr r2 t2
  have p1 := dp_plain _ _ d1
  have p2 := dp_plain _ _ d2
  obtain ⟨as, q1⟩ := Dp.reads I d x v d1 rx
  obtain ⟨bs, q2⟩ := Dp.reads I e y u d2 ry
  have bl : ∀ {k : Bool}, r = .bool k → EP X pins σ Q (.bool k) s := fun {k} ek => by
    subst ek
    exact ⟨.bl k, H, I, rfl, fin (.bl k) p⟩
  cases o
  case Eq =>
    simp only [evCmp] at ev
    split at ev
    · rename_i hc
      cases ev
      have hm : min d.depth e.depth ≤ 150 := by
        rcases Bool.or_eq_true _ _ ▸ hc with z | z
        · have := of_decide_eq_true z; omega
        · have := of_decide_eq_true z; omega
      exact SeqAt.eq_plain q1 q2 p1 p2 (by omega) (bl rfl)
    · cases ev
  case NotEq =>
    simp only [evCmp] at ev
    split at ev
    · rename_i hc
      cases ev
      have hm : min d.depth e.depth ≤ 150 := by
        rcases Bool.or_eq_true _ _ ▸ hc with z | z
        · have := of_decide_eq_true z; omega
        · have := of_decide_eq_true z; omega
      exact SeqAt.ne_plain q1 q2 p1 p2 (by omega) (bl rfl)
    · cases ev
  case In =>
    cases e <;> simp only [evCmp, reduceCtorEq] at ev
    case list ys =>
      split at ev
      · rename_i hc
        cases ev
        have := of_decide_eq_true hc
        exact SeqAt.in_list_data q2 q1 (by simpa [PyData.plain] using p2) p1 (by omega) (bl rfl)
      · cases ev
    case tuple ys =>
      split at ev
      · rename_i hc
        cases ev
        have := of_decide_eq_true hc
        exact SeqAt.in_tuple_data q2 q1 (by simpa [PyData.plain] using p2) p1 (by omega) (bl rfl)
      · cases ev
    case str ys =>
      cases d <;> simp only [evCmp, reduceCtorEq] at ev
      split at ev
      · rename_i z hc
        cases ev
        cases d1; cases d2
        exact op_in_str pins s σ H _ _ v u Q I rx ry ⟨z, ys, rfl, rfl, by rw [in_one _ _ hc]; exact fin (.bl _) p⟩
      · cases ev
    all_goals (cases d <;> simp only [evCmp, reduceCtorEq] at ev)
  case NotIn =>
    cases e <;> simp only [evCmp, reduceCtorEq] at ev
    case list ys =>
      split at ev
      · rename_i hc
        cases ev
        have := of_decide_eq_true hc
        exact SeqAt.notIn_list_data q2 q1 (by simpa [PyData.plain] using p2) p1 (by omega) (bl rfl)
      · cases ev
    case tuple ys =>
      split at ev
      · rename_i hc
        cases ev
        have := of_decide_eq_true hc
        exact SeqAt.notIn_tuple_data q2 q1 (by simpa [PyData.plain] using p2) p1 (by omega) (bl rfl)
      · cases ev
    case str ys =>
      cases d <;> simp only [evCmp, reduceCtorEq] at ev
      split at ev
      · rename_i z hc
        cases ev
        cases d1; cases d2
        exact op_notin_str pins s σ H _ _ v u Q I rx ry ⟨z, ys, rfl, rfl, by rw [in_one _ _ hc]; exact fin (.bl _) p⟩
      · cases ev
    all_goals (cases d <;> simp only [evCmp, reduceCtorEq] at ev)
  all_goals (cases d <;> cases e <;> simp only [evCmp, reduceCtorEq] at ev)
  case Lt.int.int i j => cases d1; cases d2; cases ev; exact op_lt pins s σ H _ _ v u Q I rx ry ⟨i, j, rfl, rfl, fin (.bl _) p⟩
  case LtE.int.int i j => cases d1; cases d2; cases ev; exact op_le pins s σ H _ _ v u Q I rx ry ⟨i, j, rfl, rfl, fin (.bl _) p⟩
  case Lt.tuple.tuple xs ys =>
    split at ev
    · rename_i hc
      cases ev
      obtain ⟨h1, h2⟩ := Bool.and_eq_true_iff.mp hc
      have := of_decide_eq_true h2
      exact PySem.W.lt_data q1 q2 h1 (by simp) (by omega) (bl rfl)
    · cases ev
  case LtE.tuple.tuple xs ys =>
    split at ev
    · rename_i hc
      cases ev
      obtain ⟨h1, h2⟩ := Bool.and_eq_true_iff.mp hc
      have := of_decide_eq_true h2
      exact PySem.W.le_data q1 q2 h1 (by simp) (by omega) (bl rfl)
    · cases ev
  case Gt.tuple.tuple xs ys =>
    split at ev
    · rename_i hc
      cases ev
      obtain ⟨h1, h2⟩ := Bool.and_eq_true_iff.mp hc
      have := of_decide_eq_true h2
      exact PySem.W.gt_data q1 q2 h1 (by simp) (by omega) (bl rfl)
    · cases ev
  case GtE.tuple.tuple xs ys =>
    split at ev
    · rename_i hc
      cases ev
      obtain ⟨h1, h2⟩ := Bool.and_eq_true_iff.mp hc
      have := of_decide_eq_true h2
      exact PySem.W.ge_data q1 q2 h1 (by simp) (by omega) (bl rfl)
    · cases ev
  case Gt.int.int i j => cases d1; cases d2; cases ev; exact op_gt pins s σ H _ _ v u Q I rx ry ⟨i, j, rfl, rfl, fin (.bl _) p⟩
  case GtE.int.int i j => cases d1; cases d2; cases ev; exact op_ge pins s σ H _ _ v u Q I rx ry ⟨i, j, rfl, rfl, fin (.bl _) p⟩
end
end
end Ev

/-! EvD: which term stands for which piece of the text (matE), and that its value is what the layer's reading asks (sndE). -/
namespace Ev
open PySem PySem.Spec L2

/-! ### the terms of a text -/
/-- an own __init__: its statement, parameters, names, the text that it hands on -/
structure Ini where
  st : Stmt
  ps : List Str
  N : List Str
  mg : Mg
/-- a class of exceptions: its name, whether it is the program's own, the numbers of the own classes under it (itself too), its fields (the last one first), its __init__ -/
structure CDef where
  nm : Str
  own : Bool
  subs : List Nat
  fl : List Str
  ini : Option Ini := none
/- what stands at the program's top: its defs, its whole numbers, its texts, its classes of exceptions -/
/-- an own class of objects: its name, its methods (the places of their defs), its attributes, the place of its __init__ -/
structure OCl where
  nm : Str
  ms : List (Str × Nat)
  fl : List Str
  ini : Option Nat
structure GE where
  fn : List (Option Str)
  gi : List (Str × Int)
  gs : List (Str × Str)
  cls : List CDef
  ocl : List OCl
  gt : List (Str × List Str)
def oclFl (M : GE) (c : Nat) (f : Str) : Bool := match M.ocl[c]? with
  | some d => d.fl.contains f
  | none => false
def oclMt (M : GE) (c : Nat) (m : Str) (f : Nat) : Bool := match M.ocl[c]? with
  | some d => d.ms.contains (m, f)
  | none => false
def oclMk (M : GE) (c : Nat) (x : Str) (f : Nat) : Bool := match M.ocl[c]? with
  | some d => decide (d.nm = x) && decide (d.ini = some f)
  | none => false
/-- .. and a def's names; the slot of the exception that is in hand; whether none is handled -/
structure ME extends GE where
  N : List Str
  xs : Option Nat
  cm : Bool
def clsBodyE : Stmt → List Stmt
  | .ClassDef (body := b) .. => b
  | _ => []
def clsAt (M : ME) (z : Str) (cs : List Nat) : Bool := M.cls.any fun d => decide (d.nm = z) && decide (d.subs = cs)

def isGl (sc : Scope) (x : Str) : Bool := decide (sc.names.lookup x = some .globalImplicit)
def isVis (sc : Scope) (x : Str) : Bool := match sc.names.lookup x with
  | some .local => true
  | some .cell => true
  | some .free => true
  | _ => false
def isSto (sc : Scope) (x : Str) : Bool := match sc.names.lookup x with
  | some .local => true
  | some .cell => true
  | _ => false
def plainN (x : Str) : Bool := decide (x ≠ ("__debug__" : Str)) && decide (x ≠ ("__classdict__" : Str)) && decide (x ≠ ("__name__" : Str))
def notStar : Expr → Bool
  | .Starred _ _ => false
  | _ => true
def notSlice : Expr → Bool
  | .Slice _ _ _ _ => false
  | _ => true
def notSet : Expr → Bool
  | .Set _ _ _ => false
  | _ => true
def notIf : Expr → Bool
  | .IfExp _ _ _ _ => false
  | _ => true
def isBO : Expr → Bool
  | .BoolOp _ _ _ => true
  | _ => false
def notCall0 : Expr → Bool
  | .Call (.Name _ _) [] [] _ => false
  | _ => true
def matC : PyData → Const → Bool
  | .int i, .int j => decide (i = j)
  | .bool i, .bool j => decide (i = j)
  | .str i, .str j => decide (i = j)
  | .none, .none => true
  | _, _ => false
def Bt.nm : Bt → Str
  | .len => "len" | .tuple => "tuple" | .int => "int" | .sum => "sum" | .max => "max" | .min => "min" | .all => "all" | .any => "any" | .sorted => "sorted"
  | .list => "list" | .repr => "repr" | .str => "str" | .max2 => "max" | .min2 => "min" | .listM => "list"
def Bt.isTy : Bt → Bool
  | .tuple => true | .int => true | .list => true | .str => true | .listM => true
  | _ => false
/-- no need that no exception is handled -/
def Bt.free : Bt → Bool
  | .sum => false | .max => false | .min => false | .all => false | .any => false | .sorted => false
  | _ => true
def Mt.nm : Mt → Str
  | .count => "count" | .index => "index" | .get => "get" | .pop => "pop" | .split => "split" | .join => "join" | .extend => "extend"
def Mt.okM : Mt → Bool
  | .count => true | .index => true | .get => true | .pop => true | .split => true | .join => true | .extend => false
def Es.len : Es → Nat
  | .nil => 0
  | .cons _ es => es.len + 1
def isAt (N : List Str) (i : Nat) (x : Str) : Bool := decide (N[i]? = some x)
def isFn (l : List (Option Str)) (i : Nat) (x : Str) : Bool := decide (l[i]? = some (some x))
def matTs (N : List Str) (sto : Str → Bool) : List Nat → List Expr → Bool
  | [], [] => true
  | i :: is, .Name x _ :: ps => isAt N i x && sto x && matTs N sto is ps
  | _, _ => false
def matT (N : List Str) (sto : Str → Bool) (t : List Nat) (u : Bool) (tg : Expr) : Bool := match u, t, tg with
  | false, [i], .Name x _ => isAt N i x && sto x
  | true, t, .Tuple ps _ _ => matTs N sto t ps
  | _, _, _ => false
def ownOf (N : List Str) (t : List Nat) : List (Str × Nat) := t.filterMap fun i => (N[i]?).map fun x => (x, i)

def Ity.nm : Ity → Str
  | .int => "int" | .bool => "bool" | .str => "str" | .tuple => "tuple"
def isTy (sc : Scope) (c : Ity) : Expr → Bool
  | .Name y _ => decide (y = c.nm) && isGl sc y
  | _ => false
/-- range(a) -/
def rgOf (sc : Scope) : Expr → Option Expr
  | .Call (.Name y _) [pa] [] _ => if y = "range" ∧ isGl sc y ∧ notStar pa then some pa else none
  | _ => none
def intC : Expr → Option Int
  | .Constant (.int i) _ _ => some i
  | .UnaryOp .USub (.Constant (.int i) _ _) _ => some (-i)
  | _ => none
def dictOf : Expr → Option (List (Option Expr) × List Expr)
  | .Dict ks vs _ => some (ks, vs)
  | _ => none
def keyIsC (s : Str) : Option Expr → Bool
  | some (.Constant (.str t) _ _) => decide (s = t)
  | _ => false
def matKV : List (Str × Int) → List (Option Expr) → List Expr → Bool
  | [], [], [] => true
  | (s, i) :: r, k :: ks, v :: vs => keyIsC s k && decide (intC v = some i) && matKV r ks vs
  | _, _, _ => false
def noSC : Expr → Bool
  | .ListComp _ _ _ _ => false
  | .SetComp _ _ _ _ => false
  | .DictComp _ _ _ _ _ => false
  | _ => true
def isM1 : Expr → Bool
  | .UnaryOp .USub (.Constant (.int i) _ _) _ => decide (i = 1)
  | _ => false
mutual
def matE (M : ME) : Scope → E → Expr → Bool
  | _, .bad, p => noSC p
  | _, .dnew, .Dict [] [] _ => true
  | _, .dnewI, .Dict [] [] _ => true
  | sc, .glb i, .Name x _ => M.gi.contains (x, i) && isGl sc x && plainN x
  | sc, .glbS z, .Name x _ => M.gs.contains (x, z) && isGl sc x && plainN x
  | sc, .glbT zs, .Name x _ => M.gt.contains (x, zs) && isGl sc x && plainN x
  | sc, .exis i cs, .Call (.Name x _) [.Name y _, .Name z _] [] _ => decide (M.xs = some i) && decide (x = "isinstance") && isGl sc x && isAt M.N i y && isVis sc y && plainN y && clsAt M z cs && isGl sc z && plainN z
  | sc, .exfld i js, .Attribute (.Name y _) f _ => decide (M.xs = some i) && isAt M.N i y && isVis sc y && plainN y && js.all (fun p => match M.cls[p.1]? with
    | some d => decide (d.fl[p.2]? = some f)
    | none => false)
  | sc, .trg t a, .Call (.Name x _) [q] [] _ => M.cm && decide (x = if t then "tuple" else "list") && isGl sc x && notStar q && (match rgOf sc q with
    | some pa => matE M sc a pa
    | none => false)
  | sc, .isa c a, .Call (.Name x _) [pa, q] [] _ => decide (x = "isinstance") && isGl sc x && notStar pa && notStar q && isTy sc c q && matE M sc a pa
  | sc, .dlg kvs k d, .Call (.Attribute po x ap) [pk, pd] [] cp => decide (x = "get") && (ap.endLine == cp.line) && notStar pk && notStar pd && (match dictOf po with
    | some (ks, vs) => matKV kvs ks vs && decide (0 < ks.length) && decide (ks.length ≤ 15)
    | none => false) && matE M sc k pk && matE M sc d pd
  | sc, .var i, .Name x _ => isAt M.N i x && isVis sc x && plainN x && decide (M.xs ≠ some i)
  | _, .lit c, .Constant k _ _ => matC c k
  | sc, .tup es, .Tuple ps _ _ => matEs M sc es ps && decide (es.len ≤ 10000)
  | sc, .lst es, .List ps _ => matEs M sc es ps && decide (es.len ≤ 10000)
  | sc, .lstM es, .List ps _ => matEs M sc es ps && decide (es.len ≤ 10000)
  | sc, .lsw es, .List ps _ => matEs M sc es ps && decide (es.len ≤ 10000)
  | sc, .bin o a b, .BinOp pa o' pb _ => decide (o = o') && matE M sc a pa && matE M sc b pb
  | sc, .binM o a b, .BinOp pa o' pb _ => decide (o = o') && matE M sc a pa && matE M sc b pb
  | sc, .neg a, .UnaryOp .USub pa _ => matE M sc a pa
  | sc, .nt a, .UnaryOp .Not pa _ => matE M sc a pa && notIf pa
  | sc, .cmp o a b, .Compare pa [o'] [pb] _ => decide (o = o') && notSet pb && matE M sc a pa && matE M sc b pb
  | sc, .isN a, .Compare pa [.Is] [.Constant .none _ _] _ => matE M sc a pa
  | sc, .isB n k a, .Compare pa [o] [.Constant (.bool k') _ _] _ => decide (o = if n then .IsNot else .Is) && decide (k = k') && matE M sc a pa
  | sc, .notN a, .Compare pa [.IsNot] [.Constant .none _ _] _ => matE M sc a pa
  | sc, .cmp2 o p a b c, .Compare pa [o', p'] [pb, pc] _ => decide (o = o') && decide (p = p') && notSet pb && notSet pc && matE M sc a pa && matE M sc b pb && matE M sc c pc
  | sc, .one a, .BoolOp _ [pa] _ => matE M sc a pa && notIf pa
  | sc, .and a b, .BoolOp .And (pa :: pb :: ps) pos => matE M sc a pa && notIf pa && matE M sc b (.BoolOp .And (pb :: ps) pos)
  | sc, .or a b, .BoolOp .Or (pa :: pb :: ps) pos => matE M sc a pa && notIf pa && matE M sc b (.BoolOp .Or (pb :: ps) pos)
  | sc, .ife c a b, .IfExp pc pa pb _ => matE M sc c pc && notIf pc && matE M sc a pa && matE M sc b pb
  | sc, .idx a i, .Subscript pa pi _ => notSlice pi && matE M sc a pa && matE M sc i pi
  | sc, .slc a lo hi, .Subscript pa (.Slice pl ph none _) _ => matE M sc a pa && matOe M sc lo pl && matOe M sc hi ph
  | sc, .slcM a lo hi, .Subscript pa (.Slice pl ph none _) _ => matE M sc a pa && matOe M sc lo pl && matOe M sc hi ph
  | sc, .rev a, .Subscript pa (.Slice none none (some (.UnaryOp .USub (.Constant (.int 1) _ _) _)) _) _ => matE M sc a pa
  | sc, .blt f es, .Call (.Name x _) (p :: ps) [] _ => decide (x = f.nm) && isGl sc x && matEs M sc es (p :: ps) && (M.cm || f.free)
  | sc, .mth f o es, .Call (.Attribute po x ap) (p :: ps) [] cp => f.okM && decide (x = f.nm) && notCall0 po && (ap.endLine == cp.line) && decide (ps.length < 20) && matE M sc o po && matEs M sc es (p :: ps)
  | sc, .sset a, .Call (.Name x _) [.Call (.Name y _) [pa] [] _] [] _ => M.cm && decide (x = "sorted") && decide (y = "set") && isGl sc x && isGl sc y && notStar pa && matE M sc a pa
  | sc, .call f es, .Call (.Name x _) (p :: ps) [] _ => M.cm && isFn M.fn f x && isGl sc x && plainN x && matEs M sc es (p :: ps)
  | sc, .call0 f, .Call (.Name x _) [] [] _ => M.cm && isFn M.fn f x && isGl sc x && plainN x
  | sc, .fld c a f, .Attribute pa f' _ => decide (f = f') && oclFl M.toGE c f && notCall0 pa && matE M sc a pa
  | sc, .mcl c f m o es, .Call (.Attribute po x ap) ps [] cp => M.cm && decide (x = m) && oclMt M.toGE c m f && notCall0 po && (ap.endLine == cp.line) && decide (ps.length < 20) && matE M sc o po && matEs M sc es ps
  | sc, .mko c f es, .Call (.Name x _) (p :: ps) [] _ => M.cm && oclMk M.toGE c x f && isGl sc x && plainN x && matEs M sc es (p :: ps)
  | sc, .pop0 o, .Call (.Attribute po x ap) [] [] cp => decide (x = "pop") && notCall0 po && (ap.endLine == cp.line) && matE M sc o po
  | sc, .lc _ t u it c e, .ListComp pe [⟨tg, pi, ifs, a⟩] scope _ => M.cm && decide (a = 0) && !t.isEmpty && notSet pi && blkC M.N sc scope (ownOf M.N t) && matT M.N (isSto scope) t u tg && matIt M sc it pi && matIfs M (relS scope sc) c ifs && matE M (relS scope sc) e pe
  | sc, .lc2 t u it t1 u1 it1 e, .ListComp pe [⟨tg, pi, [], a⟩, ⟨tg1, pi1, [], a1⟩] scope _ => M.cm && decide (a = 0) && decide (a1 = 0) && !t.isEmpty && !t1.isEmpty && notSet pi && notSet pi1 && blkC M.N sc scope (ownOf M.N (t ++ t1)) && matT M.N (isSto scope) t u tg && matT M.N (isSto scope) t1 u1 tg1 && matIt M sc it pi && matIt M (relS scope sc) it1 pi1 && matE M (relS scope sc) e pe
  | _, _, _ => false
def matEs (M : ME) : Scope → Es → List Expr → Bool
  | _, .nil, [] => true
  | sc, .cons e es, p :: ps => notStar p && matE M sc e p && matEs M sc es ps
  | _, _, _ => false
def matOe (M : ME) : Scope → Oe → Option Expr → Bool
  | _, .none, none => true
  | sc, .some e, some p => matE M sc e p
  | _, _, _ => false
def matIfs (M : ME) : Scope → Oe → List Expr → Bool
  | _, .none, [] => true
  | sc, .some e, [p] => matE M sc e p && notIf p
  | _, _, _ => false
def matIt (M : ME) : Scope → It → Expr → Bool
  | sc, .e a, p => matE M sc a p
  | sc, .rg1 a, .Call (.Name x _) [pa] [] _ => decide (x = "range") && isGl sc x && notStar pa && matE M sc a pa
  | sc, .rg2 a b, .Call (.Name x _) [pa, pb] [] _ => decide (x = "range") && isGl sc x && notStar pa && notStar pb && matE M sc a pa && matE M sc b pb
  | sc, .rgd a b, .Call (.Name x _) [pa, pb, pc] [] _ => decide (x = "range") && isM1 pc && isGl sc x && notStar pa && notStar pb && matE M sc a pa && matE M sc b pb
  | _, _, _ => false
end
end Ev

/-! EvE: targets, items, comprehensions. -/
namespace Ev
open PySem PySem.Spec L2

/-! ### slots -/
def sAll : List Nat → List V → L2.St → L2.St
  | i :: is, x :: xs, σ => sAll is xs (σ.set i (some x))
  | _, _, σ => σ
theorem sAll_set {t : List Nat} : ∀ {xs : List V} {σ : L2.St} {i : Nat} {y : Option V}, i ∈ t → xs.length = t.length → sAll t xs (σ.set i y) = sAll t xs σ := by
  induction t with
  | nil => intro xs σ i y h; simp at h
  | cons j js ih =>
    intro xs σ i y h hl
    cases xs with
    | nil => simp at hl
    | cons x xs =>
      simp only [sAll]
      by_cases e : i = j
      · subst e; rw [List.set_set]
      · have hi : i ∈ js := by
          rcases List.mem_cons.mp h with z | z
          · exact absurd z e
          · exact z
        rw [List.set_comm _ _ e]
        exact ih hi (by simpa using hl)
theorem sAll_wipe {t : List Nat} {xs : List V} (hl : xs.length = t.length) : ∀ {vs : List Nat} {σ : L2.St}, (∀ i ∈ vs, i ∈ t) → sAll t xs (wipe σ vs) = sAll t xs σ
  | [], _, _ => rfl
  | v :: vs, σ, h => by
    show sAll t xs ((wipe σ vs).set v none) = _
    rw [sAll_set (h v List.mem_cons_self) hl, sAll_wipe hl fun i hi => h i (List.mem_cons_of_mem _ hi)]
theorem wipe_set {vs : List Nat} : ∀ {σ : L2.St} {i : Nat} {y : Option V}, i ∈ vs → wipe (σ.set i y) vs = wipe σ vs := by
  induction vs with
  | nil => intro σ i y h; simp at h
  | cons v vs ih =>
    intro σ i y h
    show (wipe (σ.set i y) vs).set v none = (wipe σ vs).set v none
    by_cases e : i ∈ vs
    · rw [ih e]
    · have hv : i = v := by
        rcases List.mem_cons.mp h with z | z
        · exact z
        · exact absurd z e
      subst hv
      have comm : ∀ (ws : List Nat) (σ : L2.St), i ∉ ws → wipe (σ.set i y) ws = (wipe σ ws).set i y := by
        intro ws
        induction ws with
        | nil => intro σ _; rfl
        | cons w ws ihw =>
          intro σ hw
          simp only [List.mem_cons, not_or] at hw
          show (wipe (σ.set i y) ws).set w none = ((wipe σ ws).set w none).set i y
          rw [ihw σ hw.2, List.set_comm _ _ hw.1]
      rw [comm vs σ e, List.set_set]
theorem wipe_sAll {vs : List Nat} : ∀ {t : List Nat} {xs : List V} {σ : L2.St}, (∀ i ∈ t, i ∈ vs) → wipe (sAll t xs σ) vs = wipe σ vs
  | [], _, _, _ => by simp only [sAll]
  | _ :: _, [], _, _ => by simp only [sAll]
  | i :: is, x :: xs, σ, h => by
    simp only [sAll]
    rw [wipe_sAll (t := is) fun j hj => h j (List.mem_cons_of_mem _ hj), wipe_set (h i List.mem_cons_self)]
theorem wipe_wipe {vs : List Nat} {σ : L2.St} : wipe (wipe σ vs) vs = wipe σ vs := by
  have : ∀ (us : List Nat) (σ : L2.St), (∀ i ∈ us, i ∈ vs) → wipe (wipe σ us) vs = wipe σ vs := by
    intro us
    induction us with
    | nil => intro σ _; rfl
    | cons u us ih =>
      intro σ h
      show wipe ((wipe σ us).set u none) vs = _
      rw [wipe_set (h u List.mem_cons_self), ih σ fun i hi => h i (List.mem_cons_of_mem _ hi)]
  exact this vs σ fun _ h => h

section
variable [Wd]
section
variable {K : PySem.W.Frag} {xr : XRel} {B : BB} {Wx : WX} {m : List Addr} {F H : Hp} {env : Vars} {h : Hq} {σ : L2.St}
theorem SR.setv (s : SR K B m F env h σ H) {i : Nat} {w : W} {x : V} (hx : ∀ e, B.ex = some e → i ≠ e.i) (r : WR K m F x w) : SR K B m F (env.set i (some w)) h (σ.set i (some x)) H := by
  refine ⟨s.hr, by simpa using s.el, fun j u hj' e => ?_, fun e he => ?_⟩
  rotate_left
  · obtain ⟨h1, h2, h3⟩ := s.exv e he
    exact ⟨by rw [List.getElem?_set_ne (hx e he)]; exact h1, by rw [List.getElem?_set_ne (hx e he)]; exact h2, h3⟩
  by_cases hj : j = i
  · subst hj
    have hl : j < env.length := by
      have := (List.getElem?_eq_some_iff.mp e).1
      simpa using this
    rw [List.getElem?_set_self hl] at e
    cases e
    exact ⟨x, by rw [List.getElem?_set_self (Nat.lt_of_lt_of_le hl s.el)], r⟩
  · rw [List.getElem?_set_ne (Ne.symm hj)] at e
    obtain ⟨v, e1, r1⟩ := s.var j u hj' e
    exact ⟨v, by rw [List.getElem?_set_ne (Ne.symm hj)]; exact e1, r1⟩
theorem SR.setAll : ∀ {t : List Nat} {ws : List W} {xs : List V} {env : Vars} {σ : L2.St}, (∀ e, B.ex = some e → e.i ∉ t) → SR K B m F env h σ H → WRs K m F xs ws → SR K B m F (Ev.setAll t ws env) h (sAll t xs σ) H
  | [], _, _, _, _, _, s, _ => by simp only [Ev.setAll, sAll]; exact s
  | _ :: _, [], _, _, _, _, s, r => by cases r; simp only [Ev.setAll, sAll]; exact s
  | _ :: _, _ :: _, _, _, _, hx, s, r => by
    cases r with
    | cons r1 r2 => simp only [Ev.setAll, sAll]; exact SR.setAll (fun e he z => hx e he (List.mem_cons_of_mem _ z)) (s.setv (fun e he z => hx e he (by rw [z]; exact List.mem_cons_self)) r1) r2
end

/-! ### targets -/
def gNames : List Nat → TGs
  | [] => gNil
  | i :: is => gCons (gName i) (gNames is)
def gT (K : PySem.W.Frag) (t : List Nat) (u : Bool) : TG := match u, t with
  | false, i :: _ => gName i
  | false, [] => fun _ _ _ _ => False
  | true, t => fun v σ H Q => gTup K t.length (gNames t) v σ H Q ∨ gLst K t.length (gNames t) v σ H Q
theorem gNames_ok {t : List Nat} : ∀ {xs : List V} {σ : L2.St} {H : Hp} {Q : L2.St → Hp → Prop}, xs.length = t.length → Q (sAll t xs σ) H → gNames t xs σ H Q := by
  induction t with
  | nil =>
    intro xs σ H Q hl q
    cases xs with
    | nil => exact ⟨rfl, q⟩
    | cons _ _ => simp at hl
  | cons i is ih =>
    intro xs σ H Q hl q
    cases xs with
    | nil => simp at hl
    | cons x xs => exact ⟨x, xs, rfl, ih (by simpa using hl) q⟩
section
variable {K : PySem.W.Frag} {xr : XRel} {B : BB} {Wx : WX} {m : List Addr} {F H : Hp} {env env' : Vars} {h : Hq} {σ : L2.St}
/-- a turn's item comes to its slots; vs: slots that are forgotten ahead -/
theorem bind_ok' (hx : B.ex = none) {t : List Nat} {u : Bool} {w : W} {x : V} {vs : List Nat} {Q : L2.St → Hp → Prop} (e : bindT t u w env = some env') (r : WR K m F x w) (s : SR K B m F env h σ H) (hv : ∀ i ∈ vs, i ∈ t) (hv' : vs = [] ∨ ∀ i ∈ t, i ∈ vs)
    (q : ∀ σ2, SR K B m F env' h σ2 H → (vs ≠ [] → wipe σ2 vs = wipe σ vs) → Q σ2 H) : gT K t u x (wipe σ vs) H Q := by
  have done : ∀ {xs : List V} {t : List Nat}, xs.length = t.length → (∀ i ∈ vs, i ∈ t) → (vs = [] ∨ ∀ i ∈ t, i ∈ vs) → SR K B m F env' h (sAll t xs σ) H → Q (sAll t xs (wipe σ vs)) H := fun {xs t} hl h1 h2 s' => by
    rw [sAll_wipe hl h1]
    refine q _ s' fun hne => ?_
    rcases h2 with h2 | h2
    · exact absurd h2 hne
    · exact wipe_sAll h2
  unfold bindT at e
  split at e
  · split at e
    · rename_i i
      cases e
      exact done (xs := [x]) (t := [i]) rfl hv hv' (s.setv (fun e he => by rw [hx] at he; cases he) r)
    · cases e
  · split at e
    · rename_i xs
      split at e
      · rename_i hl
        cases e
        obtain ⟨a, us, rfl, sq, d⟩ : ∃ a us, x = .ref a ∧ SqT K F a us ∧ DpAll K F us xs := by
          have r : Dp K F x (.tuple xs) := r
          cases r with
          | tup h1 h2 => exact ⟨_, _, rfl, h1, h2⟩
        have hl' : us.length = t.length := by rw [d.length]; exact hl
        exact .inl ⟨a, us, rfl, s.hr.sub.sqt sq, hl', gNames_ok hl' (done hl' hv hv' (SR.setAll (fun e he => by rw [hx] at he; cases he) s (WRs.ofD d)))⟩
      · cases e
    · rename_i xs
      split at e
      · rename_i hl
        cases e
        obtain ⟨a, us, rfl, sq, d⟩ : ∃ a us, x = .ref a ∧ SqL K F a us ∧ DpAll K F us xs := by
          have r : Dp K F x (.list xs) := r
          cases r with
          | lst h1 h2 => exact ⟨_, _, rfl, h1, h2⟩
        have hl' : us.length = t.length := by rw [d.length]; exact hl
        exact .inr ⟨a, us, rfl, s.hr.sub.sql sq, hl', gNames_ok hl' (done hl' hv hv' (SR.setAll (fun e he => by rw [hx] at he; cases he) s (WRs.ofD d)))⟩
      · cases e
    · cases e
end
section
variable {X : Cx}
theorem assign1 {p : Expr} {ps : List Expr} {env : Env} (h : notStar p = true) : assignEach (p :: ps) env = (false, assign p env) :: assignEach ps env := by
  cases p <;> first | rfl | (simp [notStar] at h)
theorem pgs_names {N : List Str} {sto : Str → Bool} (hN : X.N = N) (nd : X.N.Nodup) (hst : ∀ x, sto x = true → Loc X.env.scope x ∧ (X.fn x = true ∨ X.env.scope.names.lookup x = some .local)) :
    ∀ {t : List Nat} {ps : List Expr}, matTs N sto t ps = true → PGs X ps (gNames t) ∧ (assignEach ps X.env).length = t.length ∧ (assignEach ps X.env).findIdx? (·.1) = none := by
  intro t
  induction t with
  | nil =>
    intro ps h
    cases ps with
    | nil => exact ⟨pgs_nil, rfl, rfl⟩
    | cons p ps => simp [matTs] at h
  | cons i is ih =>
    intro ps h
    cases ps with
    | nil => simp [matTs] at h
    | cons p ps =>
      cases p <;> simp only [matTs, Bool.false_eq_true] at h
      case Name x pos =>
        simp only [Bool.and_eq_true, isAt, decide_eq_true_eq] at h
        obtain ⟨⟨h1, h2⟩, h3⟩ := h
        obtain ⟨a, b, c⟩ := ih h3
        obtain ⟨l, f⟩ := hst x h2
        refine ⟨pgs_cons (pg_name nd (by rw [hN]; exact h1) l f) a rfl, ?_, ?_⟩
        · show ((false, assign (.Name x pos) X.env) :: assignEach ps X.env).length = _
          rw [List.length_cons, b]; rfl
        · show ((false, assign (.Name x pos) X.env) :: assignEach ps X.env).findIdx? (·.1) = none
          rw [List.findIdx?_cons]
          simp [c]
theorem pg_either {p : Expr} {t u : TG} (h : PG X p t) (g : PG X p u) : PG X p (fun v σ H Q => t v σ H Q ∨ u v σ H Q) :=
  ⟨fun pins s σ H v x Q I r q => q.elim (h.run pins s σ H v x Q I r) (g.run pins s σ H v x Q I r)⟩
theorem pg_T {N : List Str} {sto : Str → Bool} {u : Bool} (hc : u = true → X.calm = true) (hN : X.N = N) (nd : X.N.Nodup) (hst : ∀ x, sto x = true → Loc X.env.scope x ∧ (X.fn x = true ∨ X.env.scope.names.lookup x = some .local)) {t : List Nat} {tg : Expr}
    (h : matT N sto t u tg = true) : PG X tg (gT X.K t u) := by
  unfold matT at h
  split at h
  · rename_i i x pos
    simp only [Bool.and_eq_true, isAt, decide_eq_true_eq] at h
    obtain ⟨l, f⟩ := hst x h.2
    exact pg_name nd (by rw [hN]; exact h.1) l f
  · rename_i ps k pos
    obtain ⟨a, b, c⟩ := pgs_names hN nd hst h
    exact pg_either (pg_tup (hc rfl) a b c) (pg_lst (hc rfl) a b c)
  · cases h
end

/-! ### what is walked -/
/-- the place that is walked is as it was -/
def kept (q : Option Nat) (h h' : Hq) : Prop := match q with
  | none => True
  | some n => h'[n]? = h[n]?
theorem kept.refl {q : Option Nat} {h : Hq} : kept q h h := by cases q <;> simp [kept]
theorem kept.trans {q : Option Nat} {h h1 h2 : Hq} (a : kept q h h1) (b : kept q h1 h2) : kept q h h2 := by
  cases q with
  | none => trivial
  | some n => exact (show h2[n]? = h1[n]? from b).trans a
theorem kpt_ok {α : Type} {q : Option Nat} {h h' : Hq} {r : R α} {a : α} (e : kpt q h r = .ok a h') : r = .ok a h' ∧ kept q h h' := by
  cases q with
  | none => exact ⟨e, trivial⟩
  | some n =>
    cases r with
    | ok a1 h1 =>
      simp only [kpt, R.bind] at e
      split at e
      · rename_i hk
        cases e
        exact ⟨rfl, hk⟩
      · cases e
    | ex c ds h1 => cases e
    | bad => cases e
/-- an iterator over just these items, as long as the place that is walked stays -/
def ItOk (K : PySem.W.Frag) (q : Option Nat) (h0 : Hq) (m : List Addr) (F : Hp) (J : L2.It) (ws : List W) : Prop := ∀ (B : BB) (i : Nat) (m' : List Addr) (F' : Hp) (h' : Hq) (H' : Hp), MLe m m' → HpLe F F' → HR K B.c m' F' h' H' → kept q h0 h' →
  (∀ w, ws[i]? = some w → J.go i H' ∧ ∀ x H2, J.yld i H' x H2 → H2 = H' ∧ WR K m' F' x w) ∧ (ws.length ≤ i → J.stop i H')
def tI (K : PySem.W.Frag) (xr : XRel) (B : BB) (Wx : WX) (f : Vars → Hq → R (List W × Option Nat)) : TI := fun σ H G => ∃ m F env h, SR K B m F env h σ H ∧
  PostG K xr B Wx m F env σ H (f env h) (fun ws h' m' F' H' => ∀ J, ItOk K ws.2 h' m' F' J ws.1 → ws.1.length ≤ sizeLine → G J H')
section
variable {K : PySem.W.Frag} {m : List Addr} {F : Hp}
variable {h0 : Hq}
theorem it_list {a : Addr} {vs : List V} {ds : List PyData} (sq : SqL K F a vs) (d : DpAll K F vs ds) : ItOk K none h0 m F (Itl K a) (ds.map .d) := by
  intro B i m' F' h' H' ml le r _
  have le' := le.trans r.sub
  refine ⟨fun w e => ?_, fun hl => ⟨vs, le'.sql sq, by rw [d.length]; simpa using hl⟩⟩
  rw [List.getElem?_map] at e
  obtain ⟨x, ex, rfl⟩ := Option.map_eq_some_iff.mp e
  obtain ⟨v, ev, rv⟩ := d.get ex
  refine ⟨⟨vs, v, le'.sql sq, ev⟩, fun y H2 hy => ?_⟩
  obtain ⟨e1, e2⟩ := hy
  have := e2 vs (le'.sql sq)
  rw [ev] at this
  cases this
  exact ⟨e1, dp_mono le _ _ rv⟩
theorem it_tup {a : Addr} {vs : List V} {ds : List PyData} (sq : SqT K F a vs) (d : DpAll K F vs ds) : ItOk K none h0 m F (Itt K a) (ds.map .d) := by
  intro B i m' F' h' H' ml le r _
  have le' := le.trans r.sub
  refine ⟨fun w e => ?_, fun hl => ⟨vs, le'.sqt sq, by rw [d.length]; simpa using hl⟩⟩
  rw [List.getElem?_map] at e
  obtain ⟨x, ex, rfl⟩ := Option.map_eq_some_iff.mp e
  obtain ⟨v, ev, rv⟩ := d.get ex
  refine ⟨⟨vs, v, le'.sqt sq, ev⟩, fun y H2 hy => ?_⟩
  obtain ⟨e1, e2⟩ := hy
  have := e2 vs (le'.sqt sq)
  rw [ev] at this
  cases this
  exact ⟨e1, dp_mono le _ _ rv⟩
theorem it_str {x : Str} : ItOk K none h0 m F (Its x) (x.cps.toList.map fun c => .d (.str ⟨#[c]⟩)) := by
  intro B i m' F' h' H' ml le r _
  refine ⟨fun w e => ?_, fun hl => (show x.cps.size ≤ i by simpa using hl)⟩
  rw [List.getElem?_map] at e
  obtain ⟨c, ex, rfl⟩ := Option.map_eq_some_iff.mp e
  have ex' : x.cps[i]? = some c := by simpa using ex
  obtain ⟨hi, _⟩ := Array.getElem?_eq_some_iff.mp ex'
  refine ⟨hi, fun y H2 hy => ?_⟩
  obtain ⟨e1, c', e2, rfl⟩ := hy
  rw [ex'] at e2
  cases e2
  exact ⟨e1, .str _⟩
/-- a list that may change, as long as it does not -/
theorem it_live {n : Nat} {a : Addr} {ws : List W} (em : m[n]? = some a) (eo : (∃ xs, h0[n]? = some (.lst xs) ∧ ws = xs.map .d) ∨ h0[n]? = some (.lsw ws)) : ItOk K (some n) h0 m F (Itl K a) ws := by
  intro B i m' F' h' H' ml le r hk
  have hk : h'[n]? = h0[n]? := hk
  have em' := ml.get em
  have : ∃ vs, H' a = some (.lst vs) ∧ WRs K m' F' vs ws := by
    rcases eo with ⟨xs, eo, rfl⟩ | eo
    · rw [eo] at hk
      obtain ⟨f, vs, eH, dd⟩ := r.ob n _ a hk em'
      exact ⟨vs, eH, WRs.ofD dd⟩
    · rw [eo] at hk
      obtain ⟨f, vs, eH, dd⟩ := r.ob n _ a hk em'
      exact ⟨vs, eH, dd⟩
  obtain ⟨vs, eH, dd⟩ := this
  refine ⟨fun w e => ?_, fun hl => ⟨vs, .of eH, by rw [dd.length]; exact hl⟩⟩
  obtain ⟨v, ev, rv⟩ := dd.get e
  refine ⟨⟨vs, v, .of eH, ev⟩, fun y H2 hy => ?_⟩
  obtain ⟨e1, e2⟩ := hy
  have := e2 vs (.of eH)
  rw [ev] at this
  cases this
  exact ⟨e1, rv⟩
theorem it_up {lo hi : Int} : ItOk K none h0 m F (Itr lo (hi - lo).toNat) (rangeUp lo hi) := by
  intro B i m' F' h' H' _ _ _ _
  refine ⟨fun w e => ?_, fun hl => by rw [rangeUp, List.length_map, List.length_range] at hl; exact hl⟩
  unfold rangeUp at e
  rw [List.getElem?_map] at e
  obtain ⟨x, ex, rfl⟩ := Option.map_eq_some_iff.mp e
  obtain ⟨hx, ex⟩ := List.getElem?_eq_some_iff.mp ex
  rw [List.length_range] at hx
  rw [List.getElem_range] at ex
  subst ex
  refine ⟨hx, fun y H' hy => ?_⟩
  obtain ⟨e1, e2⟩ := hy
  subst e2
  exact ⟨e1, .int _⟩
theorem it_dn {hi lo : Int} : ItOk K none h0 m F (Itc hi (-1) (hi - lo).toNat) (rangeDn hi lo) := by
  intro B i m' F' h' H' _ _ _ _
  refine ⟨fun w e => ?_, fun hl => by rw [rangeDn, List.length_map, List.length_range] at hl; exact hl⟩
  unfold rangeDn at e
  rw [List.getElem?_map] at e
  obtain ⟨x, ex, rfl⟩ := Option.map_eq_some_iff.mp e
  obtain ⟨hx, ex⟩ := List.getElem?_eq_some_iff.mp ex
  rw [List.length_range] at hx
  rw [List.getElem_range] at ex
  subst ex
  refine ⟨hx, fun y H' hy => ?_⟩
  obtain ⟨e1, e2⟩ := hy
  subst e2
  refine ⟨e1, ?_⟩
  rw [show hi + (i : Int) * -1 = hi - i by omega]
  exact .int _
end
def iSeq (K : PySem.W.Frag) (tl : TE) : TI := fun σ H G => tl σ H fun x H1 => (∃ z, x = .str z ∧ G (Its z) H1) ∨ ∃ a, x = .ref a ∧ (((∃ xs, SqL K H1 a xs) ∧ ((∀ xs, SqL K H1 a xs → xs.length ≤ sizeLine) → G (Itl K a) H1)) ∨ ((∃ xs, SqT K H1 a xs) ∧ ((∀ xs, SqT K H1 a xs → xs.length ≤ sizeLine) → G (Itt K a) H1)))
theorem pi_seq {X : Cx} {tg l : Expr} {tl : TE} (hl : PE X l tl) : PI X tg l (iSeq X.K tl) := by
  refine ⟨fun pins s σ H G I h => ?_⟩
  refine thn (hl.run pins s σ H _ I h) fun v s1 ⟨x, H1, I1, r1, q1⟩ => ?_
  rcases q1 with ⟨z, ez, q⟩ | ⟨a, e, q⟩
  · subst ez
    obtain ⟨t, rfl⟩ := r1
    cases ha : z.cps.all (· < 128)
    · exact wpAny_pyIter_wide ha (pi_one (tk := s1.toks) I1 _ (turn_str _ z t "str_iterator" (.inr rfl)) ⟨_, Heap.get?_push_size _ rfl, rfl, rfl⟩ q)
    · exact wpAny_pyIter_ascii ha (pi_one (tk := s1.toks) I1 _ (turn_str _ z t "str_ascii_iterator" (.inl rfl)) ⟨_, Heap.get?_push_size _ rfl, rfl, rfl⟩ q)
  subst e
  cases r1
  rcases q with ⟨⟨xs, hq⟩, q⟩ | ⟨⟨xs, hq⟩, q⟩
  · obtain ⟨its, rv, p, hz⟩ := I1.list hq
    refine wpAny_pyIter_list p.isList ?_
    refine ⟨s1.heap.objs.size, [s1.heap.objs.size], _, _, H1, rfl, I1.kept (t' := s1.toks) fun b o e => Heap.get?_push_of_some _ e, turn_list a _, ⟨_, Heap.get?_push_size _ rfl, rfl, rfl⟩, fun b hb => ?_, q fun ys hy => (I1.list hy).elim fun _ z => z.2.2⟩
    have e : b = s1.heap.objs.size := by simpa using hb
    subst e
    exact I1.fpOk (Nat.le_refl _) (I1.hok.fresh (Nat.le_refl _))
  · obtain ⟨its, rv, p, hz⟩ := I1.tuple hq
    refine wpAny_pyIter_tuple (show s1.heap.IsTuple a its.toArray from p) ?_
    refine ⟨s1.heap.objs.size, [s1.heap.objs.size], _, _, H1, rfl, I1.kept (t' := s1.toks) fun b o e => Heap.get?_push_of_some _ e, turn_tuple a _, ⟨_, Heap.get?_push_size _ rfl, rfl, rfl⟩, fun b hb => ?_, q fun ys hy => (I1.tuple hy).elim fun _ z => z.2.2⟩
    have e : b = s1.heap.objs.size := by simpa using hb
    subst e
    exact I1.fpOk (Nat.le_refl _) (I1.hok.fresh (Nat.le_refl _))
end
end Ev
namespace L2
open PySem PySem.Spec
theorem PI.weak {X : Cx} {tg it : Expr} {t t' : TI} (h : PI X tg it t) (i : ∀ σ H G, t' σ H G → t σ H G) : PI X tg it t' := ⟨fun pins s σ H G I q => h.run pins s σ H G I (i σ H G q)⟩
theorem PE.weak {X : Cx} {e : Expr} {t t' : TE} (h : PE X e t) (i : ∀ σ H Q, t' σ H Q → t σ H Q) : PE X e t' := ⟨fun pins s σ H Q I q => h.run pins s σ H Q I (i σ H Q q)⟩
theorem PT.weak {X : Cx} {e : Expr} {t t' : TT} (h : PT X e t) (i : ∀ σ H Q, t' σ H Q → t σ H Q) : PT X e t' := ⟨fun pins s σ H Q I q => h.run pins s σ H Q I (i σ H Q q)⟩
theorem PW.weak {X : Cx} {e : Expr} {t t' : TT} (h : PW X e t) (i : ∀ σ H Q, t' σ H Q → t σ H Q) : PW X e t' := ⟨fun w pins s σ H Q I q => h.run w pins s σ H Q I (i σ H Q q)⟩
theorem PS.weak {X : Cx} {e : Stmt} {t t' : TS} (h : PS X e t) (i : ∀ D σ H, t' D σ H → t D σ H) : PS X e t' := ⟨fun pins s σ H D I q => h.run pins s σ H D I (i D σ H q)⟩
theorem PSs.weak {X : Cx} {e : List Stmt} {t t' : TS} (h : PSs X e t) (i : ∀ D σ H, t' D σ H → t D σ H) : PSs X e t' := ⟨fun pins s σ H D I q => h.run pins s σ H D I (i D σ H q)⟩
theorem PTs.weak {X : Cx} {e : List Expr} {t t' : TT} (h : PTs X e t) (i : ∀ σ H Q, t' σ H Q → t σ H Q) : PTs X e t' := ⟨fun pins s σ H Q I q => h.run pins s σ H Q I (i σ H Q q)⟩
theorem PA.weak {X : Cx} {e : List Expr} {t t' : TA} (h : PA X e t) (i : ∀ σ H Q, t' σ H Q → t σ H Q) : PA X e t' := ⟨fun pos pins s σ H Q I q => h.run pos pins s σ H Q I (i σ H Q q)⟩
end L2

/-! EvF: comprehensions, by the list that they make. -/
namespace Ev
open PySem PySem.Spec L2

section
variable [Wd]
abbrev WF : WX := fun _ _ _ _ => False
def lcF (fc : Vars → Hq → R (Option W)) (fe : Vars → Hq → R W) (t : List Nat) (u : Bool) (env : Vars) : W → Hq → R (Option W) := fun w h => match bindT t u w env with
  | some env => (fc env h).bind fun q h => match boolO q with
    | some true => (fe env h).bind fun r h => .ok (some r) h
    | some false => .ok none h
    | none => .bad
  | none => .bad
def tO (K : PySem.W.Frag) (xr : XRel) (B : BB) (Wx : WX) (fc : Vars → Hq → R (Option W)) : TT := fun σ H Q => ∃ m F env h, SR K B m F env h σ H ∧ PostG K xr B Wx m F env σ H (fc env h) (fun q _ _ _ H' => ∃ k, boolO q = some k ∧ Q k H')

theorem lcF_ok {fc : Vars → Hq → R (Option W)} {fe : Vars → Hq → R W} {t : List Nat} {u : Bool} {env : Vars} {w : W} {h h' : Hq} {o : Option W} (e : lcF fc fe t u env w h = .ok o h') :
    ∃ env2 q h1, bindT t u w env = some env2 ∧ fc env2 h = .ok q h1 ∧ ((∃ r, boolO q = some true ∧ fe env2 h1 = .ok r h' ∧ o = some r) ∨ (boolO q = some false ∧ o = none ∧ h' = h1)) := by
  unfold lcF at e
  split at e
  · rename_i env2 hb
    cases hc : fc env2 h with
    | ok q h1 =>
      rw [hc] at e
      simp only [R.bind] at e
      refine ⟨env2, q, h1, hb, hc, ?_⟩
      split at e
      · rename_i hq
        cases he : fe env2 h1 with
        | ok r h2 =>
          rw [he] at e
          simp only [R.bind, R.ok.injEq] at e
          exact .inl ⟨r, hq, by rw [e.2], e.1.symm⟩
        | ex _ _ _ => rw [he] at e; simp [R.bind] at e
        | bad => rw [he] at e; simp [R.bind] at e
      · rename_i hq
        simp only [R.ok.injEq] at e
        exact .inr ⟨hq, e.1.symm, e.2.symm⟩
      · cases e
    | ex _ _ _ => rw [hc] at e; simp [R.bind] at e
    | bad => rw [hc] at e; simp [R.bind] at e
  · cases e
theorem lcGo_cons {f : W → Hq → R (Option W)} {w : W} {ws rs : List W} {h hz : Hq} (e : lcGo f (w :: ws) h = .ok rs hz) : ∃ o h' rs', f w h = .ok o h' ∧ lcGo f ws h' = .ok rs' hz ∧ rs = o.toList ++ rs' := by
  unfold lcGo at e
  cases hf : f w h with
  | ok o h' =>
    rw [hf] at e
    simp only [R.bind] at e
    cases hg : lcGo f ws h' with
    | ok rs' h2 =>
      rw [hg] at e
      simp only at e
      cases o with
      | some r => simp only [R.ok.injEq] at e; exact ⟨some r, h', rs', rfl, by rw [hg, e.2], e.1.symm⟩
      | none => simp only [R.ok.injEq] at e; exact ⟨none, h', rs', rfl, by rw [hg, e.2], e.1.symm⟩
    | ex _ _ _ => rw [hg] at e; simp at e
    | bad => rw [hg] at e; simp at e
  | ex _ _ _ => rw [hf] at e; simp [R.bind] at e
  | bad => rw [hf] at e; simp [R.bind] at e

section
variable {K : PySem.W.Frag} {xr : XRel} {B : BB} {Wx : WX} {m m1 : List Addr} {F F1 H H1 : Hp} {env : Vars} {h : Hq} {σ : L2.St} {Q : VK} {D : Addr}
theorem HR.adopt (r : HR K B.c m F h H) {u : HO} (fp : F D = none) (mp : D ∉ m) (e : H D = some u) : HR K B.c m (upd F D u) h H := by
  refine ⟨r.len, r.nd, fun n o a eo ea => ?_, fun b o eb => ?_, r.there, r.clo⟩
  · have hap : a ≠ D := fun z => mp (z ▸ List.mem_of_getElem? ea)
    exact or_mono (.refl _) (.upd fp) (fun f => by rw [upd_ne hap]; exact f) (fun u e _ => e) (r.ob n o a eo ea)
  · by_cases hb : b = D
    · subst hb; rw [upd_same] at eb; cases eb; exact e
    · rw [upd_ne hb] at eb; exact r.sub b o eb
theorem HR.adoptL (r : HR K B.c m F h H) {o : Ob} (fp : F D = none) (mp : D ∉ m) (hD : H D ≠ none) (ho : OR K (m ++ [D]) F H D o) : HR K B.c (m ++ [D]) F (h ++ [o]) H := by
  have ml : MLe m (m ++ [D]) := ⟨[D], rfl⟩
  refine ⟨by simp [r.len], ?_, fun n q a e ea => ?_, r.sub, fun b hb => ?_, fun c hc => ?_⟩
  · rw [List.nodup_append]
    refine ⟨r.nd, by simp, fun a ha b hb => ?_⟩
    have : b = D := by simpa using hb
    subst this
    exact fun z => mp (z ▸ ha)
  · rcases getElem?_snoc e with ⟨hn, e⟩ | ⟨hn, rfl⟩
    · rw [List.getElem?_append_left (by rw [r.len]; exact hn)] at ea
      exact or_mono ml (.refl _) id (fun u e _ => e) (r.ob n q a e ea)
    · rw [hn, ← r.len] at ea
      simp at ea
      subst ea; exact ho
  · rcases List.mem_append.mp hb with hb | hb
    · exact r.there b hb
    · have : b = D := by simpa using hb
      subst this; exact hD
  · obtain ⟨h1, h2⟩ := r.clo c hc
    refine ⟨by simp; omega, fun n q k hn e hk => ?_⟩
    rw [List.getElem?_append_left (by omega)] at e
    exact h2 n q k hn e hk
/-- the list that a comprehension made -/
theorem lc_end {k : Nat} {rs : List W} {acc : List V} (p : PostG K xr B Wx m1 F1 env σ H1 (lcEnd k rs h) (PV K Q)) (x : Ext m1 F1 H1 m F H) (hD1 : H1 D = none) (s : SR K B m F env h σ H) (fp : F D = none) (mp : D ∉ m) (e : H D = some (.lst acc))
    (r : WRs K m F acc rs) : Q (.ref D) H := by
  have le : HpLe F (upd F D (.lst acc)) := .upd fp
  have frz : ∀ {ds : List PyData}, allD rs = some ds → PostG K xr B Wx m1 F1 env σ H1 (.ok (.d (.list ds)) h) (PV K Q) → Q (.ref D) H := fun {ds} ha p => by
    have x' : Ext m1 F1 H1 m (upd F D (.lst acc)) H := ⟨x.ml, x.sub.trans le, x.frm, x.new, fun a ha hf hh => by
      rw [upd_ne (show a ≠ D from fun z => hh (z ▸ hD1))]; exact x.frf a ha hf hh⟩
    refine p _ _ _ x' ⟨s.hr.adopt fp mp e, s.el, fun i w z q => ?_, fun y hy => let ⟨h1, h2, h3⟩ := s.exv y hy; ⟨h1, h2, y.mono _ _ le h3⟩⟩ _ (.lst sq_new (dps_mono le _ _ (r.toD ha)))
    obtain ⟨v, h1, h2⟩ := s.var i w z q
    exact ⟨v, h1, wr_mono (.refl _) le h2⟩
  have mk : ∀ {o : Ob}, OR K (m ++ [D]) F H D o → PostG K xr B Wx m1 F1 env σ H1 (.ok (.l h.length) (h ++ [o])) (PV K Q) → Q (.ref D) H := fun {o} ho p => by
    have ml : MLe m (m ++ [D]) := ⟨[D], rfl⟩
    have x' : Ext m1 F1 H1 (m ++ [D]) F H := ⟨x.ml.trans ml, x.sub, x.frm, fun a ha hn => by
      rcases List.mem_append.mp ha with ha | ha
      · exact x.new a ha hn
      · have : a = D := by simpa using ha
        subst this; exact hD1, x.frf⟩
    refine p _ _ _ x' ⟨s.hr.adoptL fp mp (by rw [e]; simp) ho, s.el, fun i w z q => ?_, s.exv⟩ _ ⟨D, by rw [← s.hr.len]; simp, rfl⟩
    obtain ⟨v, h1, h2⟩ := s.var i w z q
    exact ⟨v, h1, wr_mono ml (.refl _) h2⟩
  unfold lcEnd at p
  split at p
  · split at p
    · rename_i ds ha
      exact frz ha p
    · exact p.elim
  · split at p
    · rename_i ds ha
      exact mk (o := .lst ds) ⟨fp, acc, e, r.toD ha⟩ p
    · exact p.elim
  · exact mk (o := .lsw rs) ⟨fp, acc, e, wrs_mono ⟨[D], rfl⟩ (.refl _) r⟩ p

theorem SR.other (s : SR K B m F env h σ H) {u : HO} (fp : F D = none) (mp : D ∉ m) : SR K B m F env h σ (upd H D u) := ⟨s.hr.other fp mp, s.el, s.var, s.exv⟩

/-- THE READING of a comprehension -/
theorem lc_read (hx : B.ex = none) {fit : Vars → Hq → R (List W × Option Nat)} {fc : Vars → Hq → R (Option W)} {fe : Vars → Hq → R W} {k : Nat} {t : List Nat} {u : Bool} (ht : t ≠ [])
    (p : tE K xr B Wx (fun env h => (fit env h).bind fun ws h => (noEx (lcGo (fun w h => kpt ws.2 h (lcF fc fe t u env w h)) ws.1 h)).bind fun rs h => lcEnd k rs h) σ H Q) :
    tLc (tI K xr B Wx fit) (gT K t u) (tO K xr B WF fc) (tE K xr B WF fe) t σ H Q := by
  obtain ⟨m0, F0, env, h0, S0, p⟩ := p
  refine ⟨m0, F0, env, h0, S0, p.bind.mono fun wq h1 m1 F1 H1 x1 S1 p J hJ hwl D hD => ?_⟩
  obtain ⟨ws, qq⟩ := wq
  simp only at p hJ hwl
  -- the whole loop ends
  cases hgo : lcGo (fun w h => kpt qq h (lcF fc fe t u env w h)) ws h1 with
  | ex c ds hx => rw [hgo] at p; exact p.elim
  | bad => rw [hgo] at p; exact p.elim
  | ok rest hz =>
  rw [hgo] at p
  have p : PostG K xr B Wx m1 F1 env σ H1 (lcEnd k rest hz) (PV K Q) := p
  have fD1 := S1.hr.freeF hD
  have mD1 := S1.hr.freeM hD
  refine ⟨fun i j H => j = ws.length - i ∧ i ≤ ws.length ∧ ∃ m F h acc rs rs', Ext m1 F1 H1 m F H ∧ SR K B m F env h σ H ∧ F D = none ∧ D ∉ m ∧ H D = some (.lst acc) ∧ WRs K m F acc rs ∧ acc.length ≤ i ∧ kept qq h1 h ∧ lcGo (fun w h => kpt qq h (lcF fc fe t u env w h)) (ws.drop i) h = .ok rs' hz ∧ rest = rs ++ rs', ⟨ws.length, by simp, Nat.zero_le _, m1, F1, h1, [], [], rest, ?_, S1.other fD1 mD1, fD1, mD1, upd_same, .nil, Nat.le_refl _, .refl, hgo, rfl⟩, ?_⟩
  · exact ⟨.refl _, .refl _, fun a o e _ => by rw [upd_ne (ne_of_none e hD)]; exact e, fun _ a b => absurd a b, fun _ _ f _ => f⟩
  rintro i j H ⟨rfl, hi, m, F, h, acc, rs, rs', x, S, fD, mD, eD, r, hacc, hkp, hg, er⟩
  obtain ⟨it1, it2⟩ := hJ B i m F h H x.ml x.sub S.hr hkp
  by_cases hlt : i < ws.length
  · have ed : ws.drop i = ws[i] :: ws.drop (i + 1) := List.drop_eq_getElem_cons hlt
    rw [ed] at hg
    obtain ⟨o, h', rs2, hf, hg2, ers⟩ := lcGo_cons hg
    obtain ⟨hf, hkt⟩ := kpt_ok hf
    obtain ⟨env2, q, hq1, hb, hc, alt⟩ := lcF_ok hf
    obtain ⟨go, yl⟩ := it1 ws[i] (by simp [hlt])
    refine .inr ⟨go, fun H' => ∃ j', j' < ws.length - i ∧ j' = ws.length - (i + 1) ∧ i + 1 ≤ ws.length ∧ ∃ m F h acc rs rs', Ext m1 F1 H1 m F H' ∧ SR K B m F env h σ H' ∧ F D = none ∧ D ∉ m ∧ H' D = some (.lst acc) ∧ WRs K m F acc rs ∧ acc.length ≤ i + 1 ∧
      kept qq h1 h ∧ lcGo (fun w h => kpt qq h (lcF fc fe t u env w h)) (ws.drop (i + 1)) h = .ok rs' hz ∧ rest = rs ++ rs', fun H' n => ?_, fun y H' hy => ?_⟩
    · obtain ⟨j', a, b, c, d⟩ := n
      exact ⟨j', a, b, c, d⟩
    obtain ⟨eH, ry⟩ := yl y H' hy
    subst eH
    -- the target
    refine bind_ok' hx (K := K) (B := B) (m := m) (F := F) (h := h) (env := env) (vs := t) hb ry S (fun _ z => z) (.inr fun _ z => z) fun σ2 S2 hw => ⟨hw ht, ?_⟩
    -- the test
    refine ⟨m, F, env2, h, S2, ?_⟩
    show PostG K xr B WF m F env2 σ2 H' (fc env2 h) _
    rw [hc]
    intro m3 F3 H3 x3 S3
    have HD : H' D ≠ none := by rw [eD]; simp
    have nD : ∀ {m4 : List Addr} {F4 H4 : Hp}, Ext m F H' m4 F4 H4 → F4 D = none ∧ D ∉ m4 ∧ H4 D = some (.lst acc) := fun {m4 F4 H4} x4 =>
      ⟨x4.frf D mD fD HD, fun z => HD (x4.new D z mD), x4.frm D _ eD mD⟩
    have back : ∀ {m4 : List Addr} {F4 H4 : Hp} {h4 : Hq}, Ext m F H' m4 F4 H4 → SR K B m4 F4 env2 h4 σ2 H4 → SR K B m4 F4 env h4 σ H4 := fun {m4 F4 H4 h4} x4 S4 => S.ext S4.hr x4
    rcases alt with ⟨y, hk, hee, rfl⟩ | ⟨hk, rfl, rfl⟩
    · refine ⟨true, hk, iteT ⟨m3, F3, env2, hq1, S3, ?_⟩⟩
      show PostG K xr B WF m3 F3 env2 σ2 H3 (fe env2 hq1) _
      rw [hee]
      intro m4 F4 H4 x4 S4 z rz
      have x34 := x3.trans x4
      obtain ⟨f4, n4, e4⟩ := nD x34
      have S5 := back x34 S4
      refine ⟨acc, e4, by omega, ws.length - (i + 1), by omega, rfl, hlt, m4, F4, h', acc ++ [z], rs ++ [y], rs2, ?_, S5.other f4 n4, f4, n4, upd_same, (wrs_mono x34.ml x34.sub r).app (.cons rz .nil), by simp; omega, hkp.trans hkt, hg2, ?_⟩
      · have x5 := x.trans x34
        refine ⟨x5.ml, x5.sub, fun a o e hn => ?_, x5.new, x5.frf⟩
        rw [upd_ne (ne_of_none e hD)]; exact x5.frm a o e hn
      · rw [er, ers]; simp
    · obtain ⟨f4, n4, e4⟩ := nD x3
      refine ⟨false, hk, iteF ⟨ws.length - (i + 1), by omega, rfl, hlt, m3, F3, h', acc, rs, rs2, x.trans x3, back x3 S3, f4, n4, e4, wrs_mono x3.ml x3.sub r, by omega, hkp.trans hkt, hg2, by rw [er, ers]; simp⟩⟩
  · have ei : i = ws.length := by omega
    subst ei
    rw [List.drop_length] at hg
    simp only [lcGo, R.ok.injEq] at hg
    obtain ⟨rfl, rfl⟩ := hg
    rw [er, List.append_nil] at p
    exact .inl ⟨it2 (Nat.le_refl _), lc_end p x hD S fD mD eD r⟩
end
end
end Ev

/-! EvF2: comprehensions with two loops. -/
namespace Ev
open PySem PySem.Spec L2
theorem wipe_get {σ : L2.St} {i : Nat} : ∀ {vs : List Nat}, (wipe σ vs)[i]? = if i ∈ vs then (σ[i]?).map (fun _ => none) else σ[i]?
  | [] => by simp [wipe]
  | v :: vs => by
    show ((wipe σ vs).set v none)[i]? = _
    have ih := wipe_get (σ := σ) (i := i) (vs := vs)
    by_cases h : v = i
    · subst h
      rw [List.getElem?_set_self', ih, if_pos List.mem_cons_self]
      split <;> (cases σ[v]? <;> rfl)
    · rw [List.getElem?_set_ne h, ih]
      have : (i ∈ v :: vs) ↔ i ∈ vs := by simp [Ne.symm h]
      by_cases z : i ∈ vs
      · rw [if_pos z, if_pos (this.mpr z)]
      · rw [if_neg z, if_neg (fun q => z (this.mp q))]
theorem wipe_app (σ : L2.St) (t1 : List Nat) : ∀ t : List Nat, wipe σ (t ++ t1) = wipe (wipe σ t1) t
  | [] => rfl
  | v :: t => by
    show (wipe σ (t ++ t1)).set v none = (wipe (wipe σ t1) t).set v none
    rw [wipe_app σ t1 t]
theorem wipe_comm (σ : L2.St) (t t1 : List Nat) : wipe (wipe σ t1) t = wipe (wipe σ t) t1 := by
  apply List.ext_getElem?
  intro i
  rw [wipe_get, wipe_get, wipe_get, wipe_get]
  by_cases h1 : i ∈ t <;> by_cases h2 : i ∈ t1 <;> simp [h1, h2]
theorem clr_some {env : Vars} {i : Nat} {w : W} : ∀ {t : List Nat}, (clrV t env)[i]? = some (some w) → env[i]? = some (some w) ∧ i ∉ t
  | [], h => ⟨h, by simp⟩
  | v :: t, h => by
    by_cases e : v = i
    · subst e
      rw [show clrV (v :: t) env = (clrV t env).set v none from rfl, List.getElem?_set_self'] at h
      cases q : (clrV t env)[v]? with
      | none => rw [q] at h; simp at h
      | some _ => rw [q] at h; simp at h
    · rw [show clrV (v :: t) env = (clrV t env).set v none from rfl, List.getElem?_set_ne e] at h
      obtain ⟨h1, h2⟩ := clr_some h
      exact ⟨h1, by simp [h2, Ne.symm e]⟩
theorem clr_len {env : Vars} : ∀ {t : List Nat}, (clrV t env).length = env.length
  | [] => rfl
  | v :: t => by
    show ((clrV t env).set v none).length = _
    rw [List.length_set, clr_len]
section
variable [Wd]
noncomputable def lcF2 (fi : Vars → Hq → R (List W × Option Nat)) (fc : Vars → Hq → R (Option W)) (fe : Vars → Hq → R W) (t : List Nat) (u : Bool) (t1 : List Nat) (u1 : Bool) (env : Vars) : W → Hq → R (List W) := fun w h => match bindT t u w (clrV t1 env) with
  | some env => (fi env h).bind fun vs h => lcGo (fun v h => kpt vs.2 h (lcF fc fe t1 u1 env v h)) vs.1 h
  | none => .bad
theorem lcF2_ok {fi : Vars → Hq → R (List W × Option Nat)} {fc : Vars → Hq → R (Option W)} {fe : Vars → Hq → R W} {t : List Nat} {u : Bool} {t1 : List Nat} {u1 : Bool} {env : Vars} {w : W} {h h' : Hq} {r : List W} (e : lcF2 fi fc fe t u t1 u1 env w h = .ok r h') :
    ∃ env2 vs h1, bindT t u w (clrV t1 env) = some env2 ∧ fi env2 h = .ok vs h1 ∧ lcGo (fun v h => kpt vs.2 h (lcF fc fe t1 u1 env2 v h)) vs.1 h1 = .ok r h' := by
  unfold lcF2 at e
  split at e
  · rename_i env2 hb
    cases hc : fi env2 h with
    | ok q h1 =>
      rw [hc] at e
      exact ⟨env2, q, h1, hb, hc, e⟩
    | ex _ _ _ => rw [hc] at e; simp [R.bind] at e
    | bad => rw [hc] at e; simp [R.bind] at e
  · cases e
theorem lcGoL_cons {f : W → Hq → R (List W)} {w : W} {ws rs : List W} {h hz : Hq} (e : lcGoL f (w :: ws) h = .ok rs hz) : ∃ r h' rs', f w h = .ok r h' ∧ lcGoL f ws h' = .ok rs' hz ∧ rs = r ++ rs' := by
  unfold lcGoL at e
  cases hf : f w h with
  | ok r h' =>
    rw [hf] at e
    simp only [R.bind] at e
    cases hg : lcGoL f ws h' with
    | ok rs' h2 =>
      rw [hg] at e
      simp only [R.ok.injEq] at e
      exact ⟨r, h', rs', rfl, by rw [hg, e.2], e.1.symm⟩
    | ex _ _ _ => rw [hg] at e; simp at e
    | bad => rw [hg] at e; simp at e
  | ex _ _ _ => rw [hf] at e; simp [R.bind] at e
  | bad => rw [hf] at e; simp [R.bind] at e
section
variable {K : PySem.W.Frag} {xr : XRel} {B : BB} {Wx : WX} {m m1 : List Addr} {F F1 H H1 : Hp} {env : Vars} {h : Hq} {σ : L2.St} {Q : VK} {D : Addr}
theorem SR.clr (hx : B.ex = none) (s : SR K B m F env h σ H) (t : List Nat) : SR K B m F (clrV t env) h (wipe σ t) H := by
  refine ⟨s.hr, by rw [clr_len, wipe_length]; exact s.el, fun i w z q => ?_, fun e he => by rw [hx] at he; cases he⟩
  obtain ⟨h1, h2⟩ := clr_some q
  obtain ⟨v, e1, r⟩ := s.var i w z h1
  exact ⟨v, by rw [wipe_out h2]; exact e1, r⟩
theorem WRs.len {m : List Addr} {F : Hp} {vs : List V} {ws : List W} (r : WRs K m F vs ws) : vs.length = ws.length := by
  induction r with
  | nil => rfl
  | cons _ _ ih => simp [ih]
/-- THE READING of a comprehension with two loops -/
theorem lc2_read (hx : B.ex = none) {fit fi : Vars → Hq → R (List W × Option Nat)} {fc : Vars → Hq → R (Option W)} {fe : Vars → Hq → R W} (hfc : ∀ env h, fc env h = .ok none h) {t t1 : List Nat} {u u1 : Bool} (ht : t ≠ []) (ht1 : t1 ≠ [])
    (p : tE K xr B Wx (fun env h => (fit env h).bind fun ws h => (noEx (lcGoL (fun w h => kpt ws.2 h (lcF2 fi fc fe t u t1 u1 env w h)) ws.1 h)).bind fun rs h => if rs.length ≤ SZ then lcEnd 0 rs h else .bad) σ H Q) :
    tLc2 (tI K xr B Wx fit) (gT K t u) (tO K xr B WF fc) (tI K xr B WF fi) (gT K t1 u1) (tO K xr B WF fc) (tE K xr B WF fe) (t ++ t1) t1 σ H Q := by
  obtain ⟨m0, F0, env, h0, S0, p⟩ := p
  refine ⟨m0, F0, env, h0, S0, p.bind.mono fun wq h1 m1 F1 H1 x1 S1 p J hJ hwl D hD => ?_⟩
  obtain ⟨ws, qq⟩ := wq
  simp only at p hJ hwl
  cases hgo : lcGoL (fun w h => kpt qq h (lcF2 fi fc fe t u t1 u1 env w h)) ws h1 with
  | ex c ds hx => rw [hgo] at p; exact p.elim
  | bad => rw [hgo] at p; exact p.elim
  | ok rest hz =>
  rw [hgo] at p
  have p : PostG K xr B Wx m1 F1 env σ H1 (if rest.length ≤ SZ then lcEnd 0 rest hz else .bad) (PV K Q) := p
  by_cases hsz : rest.length ≤ SZ
  case neg => rw [if_neg hsz] at p; exact p.elim
  rw [if_pos hsz] at p
  have szE := sz_eq
  have fD1 := S1.hr.freeF hD
  have mD1 := S1.hr.freeM hD
  refine ⟨fun i j H => j = ws.length - i ∧ i ≤ ws.length ∧ ∃ m F h acc rs rs', Ext m1 F1 H1 m F H ∧ SR K B m F env h σ H ∧ F D = none ∧ D ∉ m ∧ H D = some (.lst acc) ∧ WRs K m F acc rs ∧ kept qq h1 h ∧ lcGoL (fun w h => kpt qq h (lcF2 fi fc fe t u t1 u1 env w h)) (ws.drop i) h = .ok rs' hz ∧ rest = rs ++ rs', ⟨ws.length, by simp, Nat.zero_le _, m1, F1, h1, [], [], rest, ?_, S1.other fD1 mD1, fD1, mD1, upd_same, .nil, .refl, hgo, rfl⟩, ?_⟩
  · exact ⟨.refl _, .refl _, fun a o e _ => by rw [upd_ne (ne_of_none e hD)]; exact e, fun _ a b => absurd a b, fun _ _ f _ => f⟩
  rintro i j H ⟨rfl, hi, m, F, h, acc, rs, rs', x, S, fD, mD, eD, r, hkp, hg, er⟩
  obtain ⟨it1, it2⟩ := hJ B i m F h H x.ml x.sub S.hr hkp
  by_cases hlt : i < ws.length
  · have ed : ws.drop i = ws[i] :: ws.drop (i + 1) := List.drop_eq_getElem_cons hlt
    rw [ed] at hg
    obtain ⟨ro, h', rs2, hf, hg2, ers⟩ := lcGoL_cons hg
    obtain ⟨hf, hkt⟩ := kpt_ok hf
    obtain ⟨env2, vs, hq1, hb, hc, hin⟩ := lcF2_ok hf
    obtain ⟨go, yl⟩ := it1 ws[i] (by simp [hlt])
    refine .inr ⟨go, fun H' => ∃ j', j' < ws.length - i ∧ j' = ws.length - (i + 1) ∧ i + 1 ≤ ws.length ∧ ∃ m F h acc rs rs', Ext m1 F1 H1 m F H' ∧ SR K B m F env h σ H' ∧ F D = none ∧ D ∉ m ∧ H' D = some (.lst acc) ∧ WRs K m F acc rs ∧
      kept qq h1 h ∧ lcGoL (fun w h => kpt qq h (lcF2 fi fc fe t u t1 u1 env w h)) (ws.drop (i + 1)) h = .ok rs' hz ∧ rest = rs ++ rs', fun H' n => ?_, fun y H' hy => ?_⟩
    · obtain ⟨j', a, b, c, d⟩ := n
      exact ⟨j', a, b, c, d⟩
    obtain ⟨eH, ry⟩ := yl y H' hy
    subst eH
    -- the outer target
    rw [wipe_app]
    refine bind_ok' hx (K := K) (B := B) (m := m) (F := F) (h := h) (env := clrV t1 env) (vs := t) hb ry (S.clr hx t1) (fun _ z => z) (.inr fun _ z => z) fun σ2 S2 hw => ⟨?_, ?_⟩
    · rw [wipe_app, wipe_comm σ2, hw ht, ← wipe_comm (wipe σ t1) t t1, wipe_wipe]
    -- the test
    refine ⟨m, F, env2, h, S2, ?_⟩
    show PostG K xr B WF m F env2 σ2 H' (fc env2 h) _
    rw [hfc]
    intro m3 F3 H3 x3 S3
    refine ⟨true, rfl, iteT ⟨m3, F3, env2, h, S3, ?_⟩⟩
    show PostG K xr B WF m3 F3 env2 σ2 H3 (fi env2 h) _
    rw [hc]
    intro m4 F4 H4 x4 S4 J1 hJ1 hl1
    have HD : H' D ≠ none := by rw [eD]; simp
    have nD : ∀ {m4 : List Addr} {F4 H4 : Hp}, Ext m F H' m4 F4 H4 → F4 D = none ∧ D ∉ m4 ∧ H4 D = some (.lst acc) := fun {m4 F4 H4} x4 =>
      ⟨x4.frf D mD fD HD, fun z => HD (x4.new D z mD), x4.frm D _ eD mD⟩
    have x34 := x3.trans x4
    obtain ⟨f4, n4, e4⟩ := nD x34
    -- the inner loop; the outer's own facts: what was there ahead of the list is kept
    refine ⟨fun j k H => k = vs.1.length - j ∧ j ≤ vs.1.length ∧ ∃ m F h acc rs r', Ext m1 F1 H1 m F H ∧ SR K B m F env h σ H ∧ SR K B m F env2 h σ2 H ∧ MLe m4 m ∧ HpLe F4 F ∧ F D = none ∧ D ∉ m ∧ H D = some (.lst acc) ∧ WRs K m F acc rs ∧ kept vs.2 hq1 h ∧
      lcGo (fun v h => kpt vs.2 h (lcF fc fe t1 u1 env2 v h)) (vs.1.drop j) h = .ok r' h' ∧ rest = rs ++ (r' ++ rs2), ⟨vs.1.length, by simp, Nat.zero_le _, m4, F4, hq1, acc, rs, ro, x.trans x34, S.ext S4.hr x34, S4, .refl _, .refl _, f4, n4, e4, wrs_mono x34.ml x34.sub r, .refl, hin, by rw [er, ers]⟩, ?_⟩
    rintro j k Hj ⟨rfl, hj, mj, Fj, h2, acc2, rs3, r', xj, Sj, Sj2, mlj, lej, fDj, mDj, eDj, rj, hkj, hgj, erj⟩
    obtain ⟨jt1, jt2⟩ := hJ1 B j mj Fj h2 Hj mlj lej Sj2.hr hkj
    by_cases hjl : j < vs.1.length
    · have edj : vs.1.drop j = vs.1[j] :: vs.1.drop (j + 1) := List.drop_eq_getElem_cons hjl
      rw [edj] at hgj
      obtain ⟨o, h3, r2, hf3, hg3, er3⟩ := lcGo_cons hgj
      obtain ⟨hf3, hkt3⟩ := kpt_ok hf3
      obtain ⟨env3, q3, hq3, hb3, hc3, alt⟩ := lcF_ok hf3
      rw [hfc] at hc3
      obtain ⟨eq3, eq4⟩ : q3 = none ∧ hq3 = h2 := by
        simp only [R.ok.injEq] at hc3
        exact ⟨hc3.1.symm, hc3.2.symm⟩
      rw [eq3, eq4] at alt
      obtain ⟨y3, hee, rfl⟩ : ∃ r, fe env3 h2 = .ok r h3 ∧ o = some r := by
        rcases alt with ⟨y, _, hee, e⟩ | ⟨hk, _, _⟩
        · exact ⟨y, hee, e⟩
        · cases hk
      obtain ⟨goj, ylj⟩ := jt1 vs.1[j] (by simp [hjl])
      refine .inr ⟨goj, fun H' => ∃ k', k' < vs.1.length - j ∧ k' = vs.1.length - (j + 1) ∧ j + 1 ≤ vs.1.length ∧ ∃ m F h acc rs r', Ext m1 F1 H1 m F H' ∧ SR K B m F env h σ H' ∧ SR K B m F env2 h σ2 H' ∧ MLe m4 m ∧ HpLe F4 F ∧ F D = none ∧ D ∉ m ∧ H' D = some (.lst acc) ∧ WRs K m F acc rs ∧ kept vs.2 hq1 h ∧
        lcGo (fun v h => kpt vs.2 h (lcF fc fe t1 u1 env2 v h)) (vs.1.drop (j + 1)) h = .ok r' h' ∧ rest = rs ++ (r' ++ rs2), fun H' n => ?_, fun yv H' hy => ?_⟩
      · obtain ⟨j', a, b, c, d⟩ := n
        exact ⟨j', a, b, c, d⟩
      obtain ⟨eH, ryv⟩ := ylj yv H' hy
      subst eH
      refine bind_ok' hx (K := K) (B := B) (m := mj) (F := Fj) (h := h2) (env := env2) (vs := t1) hb3 ryv Sj2 (fun _ z => z) (.inr fun _ z => z) fun σ3 S3' hw3 => ⟨hw3 ht1, ?_⟩
      refine ⟨mj, Fj, env3, h2, S3', ?_⟩
      show PostG K xr B WF mj Fj env3 σ3 H' (fc env3 h2) _
      rw [hfc]
      intro m5 F5 H5 x5 S5
      refine ⟨true, rfl, iteT ⟨m5, F5, env3, h2, S5, ?_⟩⟩
      show PostG K xr B WF m5 F5 env3 σ3 H5 (fe env3 h2) _
      rw [hee]
      intro m6 F6 H6 x6 S6 z rz
      have x56 := x5.trans x6
      have HDj : H' D ≠ none := by rw [eDj]; simp
      have f6 : F6 D = none := x56.frf D mDj fDj HDj
      have n6 : D ∉ m6 := fun z => HDj (x56.new D z mDj)
      have e6 : H6 D = some (.lst acc2) := x56.frm D _ eDj mDj
      have S7 := Sj.ext S6.hr x56
      have S8 := Sj2.ext S6.hr x56
      have lr := rj.len
      refine ⟨acc2, e6, ?_, vs.1.length - (j + 1), by omega, rfl, hjl, m6, F6, h3, acc2 ++ [z], rs3 ++ [y3], r2, ?_, S7.other f6 n6, S8.other f6 n6, mlj.trans x56.ml, lej.trans x56.sub, f6, n6, upd_same, (wrs_mono x56.ml x56.sub rj).app (.cons rz .nil), hkj.trans hkt3, hg3, ?_⟩
      · rw [erj, er3] at hsz
        simp only [List.length_append, Option.toList_some, List.length_cons, List.length_nil] at hsz
        omega
      · have x7 := xj.trans x56
        refine ⟨x7.ml, x7.sub, fun a o e hn => ?_, x7.new, x7.frf⟩
        rw [upd_ne (ne_of_none e hD)]; exact x7.frm a o e hn
      · rw [erj, er3]; simp
    · have ej : j = vs.1.length := by omega
      subst ej
      rw [List.drop_length] at hgj
      simp only [lcGo, R.ok.injEq] at hgj
      obtain ⟨rfl, rfl⟩ := hgj
      refine .inl ⟨jt2 (Nat.le_refl _), ws.length - (i + 1), by omega, rfl, hlt, mj, Fj, h2, acc2, rs3, rs2, xj, Sj, fDj, mDj, eDj, rj, hkp.trans hkt, hg2, by rw [erj]; simp⟩
  · have ei : i = ws.length := by omega
    subst ei
    rw [List.drop_length] at hg
    simp only [lcGoL, R.ok.injEq] at hg
    obtain ⟨rfl, rfl⟩ := hg
    rw [er, List.append_nil] at p
    exact .inl ⟨it2 (Nat.le_refl _), lc_end p x hD S fD mD eD r⟩
end
end
end Ev

/-! EvG: subscripts, slices, built-in functions and methods, calls. -/
namespace Ev
open PySem PySem.Spec L2

section
variable {X : Cx} {xr : XRel} {B : BB} {Wx : WX} [Wd]
theorem atZ_get {xs : List PyData} {vs : List V} {F : Hp} {k : Int} {d : PyData} (h : DpAll X.K F vs xs) (e : atZ xs k = some d) : ∃ v, L2.atI vs k = some v ∧ Dp X.K F v d := by
  unfold atZ L2.atI at e
  unfold L2.atI
  rw [h.length]
  cases hi : L2.ixN xs.length k with
  | none => rw [hi] at e; cases e
  | some j =>
    rw [hi] at e
    obtain ⟨v, h1, h2⟩ := h.get (show xs[j]? = some d from e)
    exact ⟨v, h1, h2⟩
theorem atZ_getW {ws : List W} {vs : List V} {m : List Addr} {F : Hp} {k : Int} {w : W} (h : WRs X.K m F vs ws) (e : atZ ws k = some w) : ∃ v, L2.atI vs k = some v ∧ WR X.K m F v w := by
  unfold atZ L2.atI at e
  unfold L2.atI
  rw [h.length]
  cases hi : L2.ixN ws.length k with
  | none => rw [hi] at e; cases e
  | some j =>
    rw [hi] at e
    obtain ⟨v, h1, h2⟩ := h.get (show ws[j]? = some w from e)
    exact ⟨v, h1, h2⟩
theorem liftO_cases {m : List Addr} {F H : Hp} {env : Vars} {h : Hq} {σ : L2.St} {Q : VK} {o : Option PyData} (p : PostE X.K xr B Wx m F env σ H (liftO o h) Q) : ∃ d, o = some d ∧ PostE X.K xr B Wx m F env σ H (.ok (.d d) h) Q := by
  cases o with
  | none => exact p.elim
  | some d => exact ⟨d, rfl, p⟩
theorem ix_E (hw : X.w = Wd.w) (hu : X.A.units + 200 < cLine) : IxR X (rOp X.K xr B Wx (fun a i h => evIdx h a i)) := by
  intro value slice pins s σ H x y v u Q I rx ry hq hs
  obtain ⟨m, F, env, h, σ', w1, w2, S, r1, r2, p⟩ := hq
  have int : ∀ {k : Int}, w2 = .d (.int k) → y = .int k := fun {k} e => by
    subst e
    have r2 : Dp X.K F y (.int k) := r2
    cases r2; rfl
  simp only [evIdx] at p
  split at p
  · rename_i xs k
    cases int rfl
    obtain ⟨d, e, p⟩ := liftO_cases p
    obtain ⟨a, vs, rfl, sq, dd⟩ : ∃ a vs, x = .ref a ∧ SqL X.K F a vs ∧ DpAll X.K F vs xs := by
      have r1 : Dp X.K F x (.list xs) := r1
      cases r1 with
      | lst h1 h2 => exact ⟨_, _, rfl, h1, h2⟩
    obtain ⟨z, hz, rz⟩ := atZ_get dd e
    exact ix_list value slice pins s σ H _ _ v u Q I rx ry ⟨a, vs, k, z, rfl, rfl, S.hr.sub.sql sq, hz, PostE.now p S rz⟩ hs
  · rename_i xs k
    cases int rfl
    obtain ⟨d, e, p⟩ := liftO_cases p
    obtain ⟨a, vs, rfl, sq, dd⟩ : ∃ a vs, x = .ref a ∧ SqT X.K F a vs ∧ DpAll X.K F vs xs := by
      have r1 : Dp X.K F x (.tuple xs) := r1
      cases r1 with
      | tup h1 h2 => exact ⟨_, _, rfl, h1, h2⟩
    obtain ⟨z, hz, rz⟩ := atZ_get dd e
    exact ix_tup value slice pins s σ H _ _ v u Q I rx ry ⟨a, vs, k, z, rfl, rfl, S.hr.sub.sqt sq, hz, PostE.now p S rz⟩ hs
  · rename_i z k
    cases int rfl
    obtain rfl : x = .str z := by
      have r1 : Dp X.K F x (.str z) := r1
      cases r1; rfl
    split at p
    · rename_i hl
      split at p
      · rename_i c e
        exact ix_str value slice pins s σ H _ _ v u Q I rx ry ⟨z, k, c, rfl, rfl, by rw [← sz_eq]; exact hl, e, PostE.now p S (.str _)⟩ hs
      · exact p.elim
    · exact p.elim
  · rename_i n k
    cases int rfl
    obtain ⟨a, em, rfl⟩ := r1
    split at p
    · rename_i xs eo
      obtain ⟨f, vs, eH, dd⟩ := S.hr.ob n _ a eo em
      obtain ⟨d, e, p⟩ := liftO_cases p
      obtain ⟨z, hz, rz⟩ := atZ_get dd e
      exact ix_list value slice pins s σ H _ _ v u Q I rx ry ⟨a, vs, k, z, rfl, rfl, .of eH, hz, PostE.now p S rz⟩ hs
    · rename_i ws eo
      obtain ⟨f, vs, eH, dd⟩ := S.hr.ob n _ a eo em
      split at p
      · rename_i w e
        obtain ⟨z, hz, rz⟩ := atZ_getW dd e
        exact ix_list value slice pins s σ H _ _ v u Q I rx ry ⟨a, vs, k, z, rfl, rfl, .of eH, hz, PostE.now p S rz⟩ hs
      · exact p.elim
    · rename_i kvs eo
      obtain ⟨f, vs, eH, di, hl⟩ := S.hr.ob n _ a eo em
      obtain ⟨d, e, p⟩ := liftO_cases p
      have g := di.get k
      rw [e] at g
      obtain ⟨z, e1, dz⟩ := g
      cases rx
      have dg : DGet H a (.int k) (some z) := e1 ▸ DGet.k (k := .inl k) eH
      exact PyProof.Rows.tail_any (dict_typeIs I dg) PySem.F.slot_dict_getitem.lookup (d_getItem (by show X.A.units + 1 < cLine; omega) I dg ry fun w' s' I' rz => ⟨z, H, I', rz, PostE.now p S dz⟩) hs
    · exact p.elim
  · rename_i n k _
    obtain ⟨a, em, rfl⟩ := r1
    split at p
    · rename_i kvs eo
      obtain ⟨fa, es, eH, dk, nd, hz, hl⟩ := S.hr.ob n _ a eo em
      split at p
      · rename_i hk
        obtain ⟨xs, nk, rfl, ek, hd⟩ := isKey_ok hk
        have r2 : Dp X.K F y (.tuple xs) := r2
        have r2' := r2
        obtain ⟨d, e, p⟩ := liftO_cases p
        cases r2 with
        | tup h1 h2 =>
          cases rx
          cases ry
          have dd := dk_of hw I S.hr.sub eH dk nd
          have g := dk.get ek
          rw [e] at g
          obtain ⟨pv, z, e1, rz, dz⟩ := g
          exact PyProof.Rows.tail_any dd.typeIs PySem.F.slot_dict_getitem.lookup (wpAny_getItem_heap (dk_room hu) (dk_is I S.hr.sub ek hd r2') dd e1 ⟨z, H, I.tok _, rz, PostE.now p S dz⟩) hs
      · exact p.elim
    · exact p.elim
  · exact p.elim

theorem cut_len {α : Type} (xs : List α) (lo hi : Option Int) : (cutL xs lo hi).length ≤ xs.length := by
  unfold cutL; rw [List.length_take, List.length_drop]; omega
theorem cut_dp {F : Hp} {vs : List V} {ds : List PyData} (h : DpAll X.K F vs ds) (lo hi : Option Int) : DpAll X.K F (cutV vs lo hi) (cutL ds lo hi) := by
  unfold cutV cutL
  rw [h.length]
  exact (h.drop _).take _
theorem cut_all {α : Type} {xs : List α} {lo hi : Option Int} (h1 : HT.sIx xs.length 0 lo = 0) (h2 : HT.sIx xs.length xs.length hi = xs.length) : cutL xs lo hi = xs := by
  unfold cutL
  rw [h1, h2]
  simp
/-- the reading of a slice -/
def rSlE (K : PySem.W.Frag) (xr : XRel) (B : BB) (Wx : WX) : V → Option Int → Option Int → Hp → VK → Prop := fun x lo hi H Q => ∃ m F env h σ w, SR K B m F env h σ H ∧ WR K m F x w ∧
  PostE K xr B Wx m F env σ H (evSlc h w lo hi) Q
theorem sl_E : SlR X (rSlE X.K xr B Wx) := by
  intro pins s σ H x v vl vu lo hi sl Q I rx hs pl pu hq
  obtain ⟨m, F, env, h, σ', w, S, r, p⟩ := hq
  simp only [evSlc] at p
  split at p
  · rename_i xs e
    obtain ⟨a, vs, rfl, sq, dd⟩ := (now_of S.hr r e).list S.hr.sub
    exact sl_list pins s σ H _ v vl vu lo hi sl Q I rx hs pl pu ⟨a, vs, rfl, sq, fun q hq => PostE.newF p S hq (dp_newL S.hr hq (cut_dp dd lo hi))⟩
  · rename_i xs e
    obtain ⟨a, vs, rfl, sq, dd, dx⟩ := (now_of S.hr r e).tuple S.hr.sub
    refine sl_tupA pins s σ H _ v vl vu lo hi sl Q I rx hs pl pu ⟨a, vs, rfl, sq, fun hw => PostE.now p S ?_, fun _ q hq => PostE.newF p S hq (dp_newT S.hr hq (cut_dp dd lo hi))⟩
    rw [dd.length] at hw
    show Dp X.K F _ (.tuple (cutL xs lo hi))
    rw [cut_all hw.1 hw.2]
    exact dx
  · rename_i z e
    split at p
    · rename_i hz
      obtain rfl : x = .str z := by
        have d := (now_of S.hr r e).dp S.hr.sub
        cases d with
        | str _ => rfl
      exact sl_str pins s σ H _ v vl vu lo hi sl Q I rx hs pl pu ⟨z, rfl, by rw [← sz_eq]; exact hz, PostE.now p S (.str _)⟩
    · exact p.elim
  · exact p.elim
def rSlM (K : PySem.W.Frag) (xr : XRel) (B : BB) (Wx : WX) : V → Option Int → Option Int → Hp → VK → Prop := fun x lo hi H Q => ∃ m F env h σ w, SR K B m F env h σ H ∧ WR K m F x w ∧
  PostE K xr B Wx m F env σ H (evSlcM h w lo hi) Q
theorem sl_M : SlR X (rSlM X.K xr B Wx) := by
  intro pins s σ H x v vl vu lo hi sl Q I rx hs pl pu hq
  obtain ⟨m, F, env, h, σ', w, S, r, p⟩ := hq
  simp only [evSlcM] at p
  split at p
  · rename_i xs e
    obtain ⟨a, vs, rfl, sq, dd⟩ := (now_of S.hr r e).list S.hr.sub
    exact sl_list pins s σ H _ v vl vu lo hi sl Q I rx hs pl pu ⟨a, vs, rfl, sq, fun q hq => PostE.newL (o := .lst (cutL xs lo hi)) p S hq ⟨S.hr.freeF hq, _, upd_same, cut_dp dd lo hi⟩⟩
  · exact p.elim
/-- the reading of a built-in's call -/
def rB (K : PySem.W.Frag) (xr : XRel) (B : BB) (Wx : WX) (f : List W → Hq → R W) : List V → Hp → VK → Prop := fun xs H Q => ∃ m F env h σ ws, SR K B m F env h σ H ∧ WRs K m F xs ws ∧ PostE K xr B Wx m F env σ H (f ws h) Q

theorem one_of {m : List Addr} {F : Hp} {xs : List V} {w : W} (h : WRs X.K m F xs [w]) : ∃ v, xs = [v] ∧ WR X.K m F v w := by
  cases h with
  | cons h1 h2 => cases h2; exact ⟨_, rfl, h1⟩
theorem cr_len : CallR X (.builtin "len") (rB X.K xr B Wx (evB .len)) := by
  intro pins s σ H xs us Q I rs hq
  obtain ⟨m, F, env, h, σ', ws, S, r, p⟩ := hq
  match ws, r, p with
  | [w], r, p =>
    obtain ⟨v, rfl, r'⟩ := one_of r
    simp only [evB] at p
    split at p
    · rename_i n e
      have q : Q (.int n) H := PostE.now p S (.int _)
      cases w with
      | x _ _ => exact r'.elim
      | d x =>
        cases x <;> simp only [evLen, reduceCtorEq] at e
        case list ds =>
          cases e
          obtain ⟨a, vs, rfl, sq, dd⟩ : ∃ a vs, v = .ref a ∧ SqL X.K F a vs ∧ DpAll X.K F vs ds := by
            have r'' : Dp X.K F v (.list ds) := r'
            cases r'' with
            | lst h1 h2 => exact ⟨_, _, rfl, h1, h2⟩
          refine call_len_seq pins s σ H _ us Q I rs ⟨a, vs, rfl, .inl (S.hr.sub.sql sq), ?_⟩
          rw [dd.length]; exact q
        case tuple ds =>
          cases e
          obtain ⟨a, vs, rfl, sq, dd⟩ : ∃ a vs, v = .ref a ∧ SqT X.K F a vs ∧ DpAll X.K F vs ds := by
            have r'' : Dp X.K F v (.tuple ds) := r'
            cases r'' with
            | tup h1 h2 => exact ⟨_, _, rfl, h1, h2⟩
          refine call_len_seq pins s σ H _ us Q I rs ⟨a, vs, rfl, .inr (S.hr.sub.sqt sq), ?_⟩
          rw [dd.length]; exact q
        case str z =>
          split at e
          · rename_i hz
            cases e
            obtain rfl : v = .str z := by
              have r'' : Dp X.K F v (.str z) := r'
              cases r''; rfl
            exact call_len_str pins s σ H _ us Q I rs ⟨z, rfl, by rw [← sz_eq]; exact hz, q⟩
          · cases e
      | l k =>
        obtain ⟨a, em, rfl⟩ := r'
        simp only [evLen] at e
        split at e
        · rename_i xs eo
          cases e
          obtain ⟨f, vs, eH, dd⟩ := S.hr.ob k _ a eo em
          refine call_len_seq pins s σ H _ us Q I rs ⟨a, vs, rfl, .inl (.of eH), ?_⟩
          rw [dd.length]; exact q
        · rename_i xs eo
          cases e
          obtain ⟨f, vs, eH, dd⟩ := S.hr.ob k _ a eo em
          refine call_len_seq pins s σ H _ us Q I rs ⟨a, vs, rfl, .inl (.of eH), ?_⟩
          rw [dd.length]; exact q
        · cases e
    · exact p.elim
  | [], _, p => exact p.elim
  | _ :: _ :: _, _, p => exact p.elim
theorem cr_tuple : CallR X (.type "tuple") (rB X.K xr B Wx (evB .tuple)) := by
  intro pins s σ H xs us Q I rs hq
  obtain ⟨m, F, env, h, σ', ws, S, r, p⟩ := hq
  match ws, r, p with
  | [w], r, p =>
    obtain ⟨v, rfl, r'⟩ := one_of r
    simp only [evB] at p
    obtain ⟨d, e, p⟩ := liftO_cases p
    rw [Option.map_eq_some_iff] at e
    obtain ⟨xs, e, rfl⟩ := e
    rw [Option.bind_eq_some_iff] at e
    obtain ⟨dx, e1, e2⟩ := e
    cases dx <;> simp only [seqOf, reduceCtorEq] at e2
    case list ds =>
      cases e2
      obtain ⟨a, vs, rfl, sq, dd⟩ := (now_of S.hr r' e1).list S.hr.sub
      exact call_tuple_of pins s σ H _ us Q I rs ⟨a, vs, rfl, .inl ⟨sq, fun q hq => PostE.newF p S hq (dp_newT S.hr hq dd)⟩⟩
    case tuple ds =>
      cases e2
      obtain ⟨a, vs, rfl, sq, dd, dx⟩ := (now_of S.hr r' e1).tuple S.hr.sub
      exact call_tuple_of pins s σ H _ us Q I rs ⟨a, vs, rfl, .inr ⟨sq, PostE.now p S dx⟩⟩
  | [], _, p => exact p.elim
  | _ :: _ :: _, _, p => exact p.elim
theorem cr_list : CallR X (.type "list") (rB X.K xr B Wx (evB .list)) := by
  intro pins s σ H xs us Q I rs hq
  obtain ⟨m, F, env, h, σ', ws, S, r, p⟩ := hq
  match ws, r, p with
  | [w], r, p =>
    obtain ⟨v, rfl, r'⟩ := one_of r
    simp only [evB] at p
    obtain ⟨d, e, p⟩ := liftO_cases p
    rw [Option.map_eq_some_iff] at e
    obtain ⟨xs, e, rfl⟩ := e
    rw [Option.bind_eq_some_iff] at e
    obtain ⟨dx, e1, e2⟩ := e
    cases dx <;> simp only [seqOf, reduceCtorEq] at e2
    case list ds =>
      cases e2
      obtain ⟨a, vs, rfl, sq, dd⟩ := (now_of S.hr r' e1).list S.hr.sub
      exact call_list_of pins s σ H _ us Q I rs ⟨a, vs, rfl, .inl sq, fun q hq => PostE.newF p S hq (dp_newL S.hr hq dd)⟩
    case tuple ds =>
      cases e2
      obtain ⟨a, vs, rfl, sq, dd, dx⟩ := (now_of S.hr r' e1).tuple S.hr.sub
      exact call_list_of pins s σ H _ us Q I rs ⟨a, vs, rfl, .inr sq, fun q hq => PostE.newF p S hq (dp_newL S.hr hq dd)⟩
  | [], _, p => exact p.elim
  | _ :: _ :: _, _, p => exact p.elim
theorem cr_listM : CallR X (.type "list") (rB X.K xr B Wx (evB .listM)) := by
  intro pins s σ H xs us Q I rs hq
  obtain ⟨m, F, env, h, σ', ws, S, r, p⟩ := hq
  match ws, r, p with
  | [w], r, p =>
    obtain ⟨v, rfl, r'⟩ := one_of r
    simp only [evB] at p
    split at p
    · rename_i xs e
      rw [Option.bind_eq_some_iff] at e
      obtain ⟨dx, e1, e2⟩ := e
      cases dx <;> simp only [seqOf, reduceCtorEq] at e2
      case list ds =>
        cases e2
        obtain ⟨a, vs, rfl, sq, dd⟩ := (now_of S.hr r' e1).list S.hr.sub
        exact call_list_of pins s σ H _ us Q I rs ⟨a, vs, rfl, .inl sq, fun q hq => PostE.newL (o := .lst xs) p S hq ⟨S.hr.freeF hq, _, upd_same, dd⟩⟩
      case tuple ds =>
        cases e2
        obtain ⟨a, vs, rfl, sq, dd, dx⟩ := (now_of S.hr r' e1).tuple S.hr.sub
        exact call_list_of pins s σ H _ us Q I rs ⟨a, vs, rfl, .inr sq, fun q hq => PostE.newL (o := .lst xs) p S hq ⟨S.hr.freeF hq, _, upd_same, dd⟩⟩
    · exact p.elim
  | [], _, p => exact p.elim
  | _ :: _ :: _, _, p => exact p.elim
theorem cr_int : CallR X (.type "int") (rB X.K xr B Wx (evB .int)) := by
  intro pins s σ H xs us Q I rs hq
  obtain ⟨m, F, env, h, σ', ws, S, r, p⟩ := hq
  match ws, r, p with
  | [.d (.int i)], r, p =>
    obtain ⟨v, rfl, r'⟩ := one_of r
    have r'' : Dp X.K F v (.int i) := r'
    cases r''
    exact call_int1 pins s σ H _ us Q I rs (.inl ⟨i, rfl, PostE.now p S (.int _)⟩)
  | [.d (.bool k)], r, p =>
    obtain ⟨v, rfl, r'⟩ := one_of r
    have r'' : Dp X.K F v (.bool k) := r'
    cases r''
    exact call_int1 pins s σ H _ us Q I rs (.inr ⟨k, rfl, PostE.now p S (.int _)⟩)
  | [.d .none], _, p => exact p.elim
  | [.d (.str a)], r, p =>
    obtain ⟨v, rfl, r'⟩ := one_of r
    have r'' : Dp X.K F v (.str a) := r'
    cases r''
    simp only [evB] at p
    split at p
    · rename_i i e
      split at p
      · rename_i hl
        exact call_int_str pins s σ H _ us Q I rs ⟨a, i, rfl, e, hl, PostE.now p S (.int _)⟩
      · exact p.elim
    · exact p.elim
  | [.d (.list _)], _, p => exact p.elim
  | [.d (.tuple _)], _, p => exact p.elim
  | [.d (.dict _)], _, p => exact p.elim
  | [.l _], _, p => exact p.elim
  | [], _, p => exact p.elim
  | _ :: _ :: _, _, p => exact (show False by simpa [evB, PostG] using p).elim
theorem ints_vs {F : Hp} : ∀ {ds : List PyData} {vs : List V} {ns : List Int}, DpAll X.K F vs ds → intsOf ds = some ns → vs = ns.map V.int
  | [], _, _, h, e => by cases h; simp [intsOf] at e; subst e; rfl
  | d :: ds, _, _, h, e => by
    cases h with
    | cons h1 h2 =>
      cases d <;> simp only [intsOf, reduceCtorEq] at e
      rw [Option.map_eq_some_iff] at e
      obtain ⟨ns, e, rfl⟩ := e
      cases h1
      rw [ints_vs h2 e]
      rfl
theorem mt_cnt (hu : X.A.units + 200 < cLine) : MtR X "list.count" (fun x xs H Q => ∃ m F env h σ w ws, SR X.K B m F env h σ H ∧ WR X.K m F x w ∧ WRs X.K m F xs ws ∧ PostE X.K xr B Wx m F env σ H (evM .count w ws h) Q) := by
  intro pins s σ H x xs v us Q I rx rxs hq
  obtain ⟨m, F, env, h, σ', w, ws, S, r, rs, p⟩ := hq
  match ws, rs, p with
  | [.d z], rs, p =>
    simp only [evM] at p
    split at p
    · rename_i ys e
      split at p
      · rename_i hd
        obtain ⟨y, rfl, ry⟩ := one_of rs
        obtain ⟨a, vs, rfl, sq, dd⟩ := (now_of S.hr r e).list S.hr.sub
        obtain ⟨uy, rfl, ruy⟩ := vals1 rxs
        cases rx
        obtain ⟨its, rv, ⟨o, n, ho, hc, _, hdd⟩, _⟩ := I.list sq
        have dd' : DpAll X.K H vs ys := dps_mono S.hr.sub _ _ dd
        obtain ⟨as, h4⟩ := Dp.readsAll I ys vs its dd' rv
        have ry1 : Dp X.K F y z := ry
        have ry' : Dp X.K H y z := dp_mono S.hr.sub _ _ ry1
        obtain ⟨bs, h5⟩ := Dp.reads I z y uy ry' ruy
        have := of_decide_eq_true hd
        refine SeqAt.count_list_data (vs := its.toArray) ⟨o, ho, hc, n, hdd⟩ (by simpa using h4) h5 (dps_plain _ _ dd') (dp_plain _ _ ry') (by omega) ?_
        exact ⟨.int _, H, I.tok _, ⟨_, rfl⟩, PostE.now p S (.int _)⟩
      · exact p.elim
    · exact p.elim
  | [.l _], _, p => exact p.elim
  | [], _, p => exact p.elim
  | _ :: _ :: _, _, p => exact (show False by simpa [evM, PostG] using p).elim
end
end Ev

/-! EvU: promises of defs that are called with no guard in force (for repr). -/
namespace Ev
open PySem PySem.Spec L2
/-- as FnOk, asked only where no repr is under way -/
structure FnG (P : Program) (w : World) (K : PySem.W.Frag) (mg : Str → Option Value) (base : Heap) (CX : CXT) (k : Nat) (f : Addr) (fd : FuncData) (ps : List Str) (sp : Sp) : Prop where
  lenG : ∀ ys G Z D, sp ys G Z D → ys.length = ps.length
  runG : ∀ (A : Around), A.guards = some [] → ∀ (fr : List Env) (s : Shared) (G : Hp) (args : Args) (zs : List Value) (ys : List V) (Z : VK) (D : XK), Room k A → Env0 P w K mg base A fr s G → BindsTo s fd args (ps.zip zs) → Vals ys zs → sp ys G Z D →
    codeAny (model P w) A (.call (.ref f) args) (CR CX fr P w G s Z D) s
section
variable {X : Cx} {CX : CXT} {k : Nat} {f : Addr} {fd : FuncData} {ps : List Str} {sp : Sp} {E : St → XK} {x : Str} {p pos : Pos} {e : Expr} {es : List Expr} {t : TA}
/-- the callee at work -/
theorem workG {Z : VK} {pins : List (Addr × Obj)} {σ : L2.St} {G : Hp} {s : Shared} {zs : List Value} {ys : List V} (F : FnG X.prog X.w X.K X.mg X.base CX k f fd ps sp) (gd : X.A.guards = some []) (room : Room k X.A) (bd : Binds X.K fd ps []) (pa : PassesAt CX X σ (E σ))
    (J : Inv X pins σ G s) (rel : Vals ys zs) (q : sp ys G Z (E σ)) : wpAny (model X.prog X.w) X.A (call (.ref f) zs) (EP X pins σ Z) X.xe s := by
  have hz : zs.length = ps.length := rel.length ▸ F.lenG _ _ _ _ q
  have bt : BindsTo s fd ⟨zs, []⟩ (ps.zip zs) := by
    have := bd s zs J.kIn (by simpa using hz)
    simpa using this
  refine wpAny_call (codeAny_mono (F.runG X.A gd X.stack s G ⟨zs, []⟩ zs ys Z (E σ) room J.env0 bt rel q) fun res s2 o => ?_)
  match res, o with
  | .error ex, o => exact pa pins G s ex s2 J o
  | .ok (.ret u), o => exact J.after o
/-- f(a, ..) where no repr is under way -/
theorem pe_callG (F : FnG X.prog X.w X.K X.mg X.base CX k f fd ps sp) (gd : X.A.guards = some []) (room : Room k X.A) (gl : Gl X x) (m : X.mg x = some (.ref f)) (kp : PySem.W.keepIn X.K (.ref f) = true) (bd : Binds X.K fd ps []) (pa : ∀ σ, PassesAt CX X σ (E σ)) (args : PA X (e :: es) t)
    (nd : (x == ("__debug__" : Str)) = false) (st : starEach (e :: es) X.env = (false, eval e X.env) :: starEach es X.env) (ns : (backTo pos (starEach es X.env)).any (·.1) = false) : PE X (.Call (.Name x p) (e :: es) [] pos) (tCallS sp E t) := by
  refine ⟨fun pins s σ G Z J q => wpAny_Call_Name_kw (ld_glob J gl m ?_ nd)⟩
  refine PySem.W.callWith_K (h₀ := X.base) J.ok.mod.kin kp (thn (args.run pos pins s σ G _ J q) fun zs s1 o => ?_) st ns
  obtain ⟨ys, G1, J1, rel, q1⟩ := o
  exact ⟨J1.kIn, workG F gd room bd (pa σ) J1 rel q1⟩
/-- f() where no repr is under way -/
theorem pe_call0G (F : FnG X.prog X.w X.K X.mg X.base CX k f fd ps sp) (gd : X.A.guards = some []) (room : Room k X.A) (gl : Gl X x) (m : X.mg x = some (.ref f)) (kp : PySem.W.keepIn X.K (.ref f) = true) (bd : Binds X.K fd ps []) (pa : ∀ σ, PassesAt CX X σ (E σ))
    (nd : (x == ("__debug__" : Str)) = false) : PE X (.Call (.Name x p) [] [] pos) (fun σ G Z => sp [] G Z (E σ)) := by
  refine ⟨fun pins s σ G Z J q => wpAny_Call_Name_kw (ld_glob J gl m ?_ nd)⟩
  exact PySem.W.callWith_K0 J.kIn kp (workG F gd room bd (pa σ) J .nil q)
/-- the tree of o.m(..) -/
theorem mcall_tree {o : Expr} {m : Str} {apos pos : Pos} {args : List Expr} {env : Env} (hb : attributeBase o m env (eval o env) = eval o env) (hline : (apos.endLine == pos.line) = true)
    (hall : (backTo pos (starEach args env)).all (fun x => !x.1) = true) (hl : args.length < 29) :
    eval (.Call (.Attribute o m apos) args [] pos) env = (do
      let ov ← eval o env
      standAt apos.atName
      let (f, first) ← holding [ov] (getMethod ov m (do return (← importBound o env).getD true))
      callWith pos f first (backTo pos (starEach args env)) (backToKw pos (keywordEach [] env))) := by
  refine mcall_of hb fun ov => ?_
  have hform : methodCallForm (args.length + ([] : List Keyword).length) (backTo pos (starEach args env)) (backToKw pos (keywordEach [] env)) = true := by
    unfold methodCallForm
    rw [hall]
    have : (args.length + ([] : List Keyword).length + (if (backToKw pos (keywordEach [] env)).isEmpty then 0 else 1)) < 30 := by
      have e : (backToKw pos (keywordEach [] env)).isEmpty = true := rfl
      rw [e]
      simp
      omega
    rw [decide_eq_true this]
    rfl
  unfold methodCall calleeOf methodCallPos
  simp only [hform, hline, if_true, Bool.not_true, Bool.false_or, Bool.or_true, pure_bind]
section
variable {X : Cx} {CX : CXT} {k : Nat} {f C : Addr} {fd : FuncData} {ps : List Str} {sp : Sp} {E : St → XK} {x m : Str} {p pos apos : Pos} {e o : Expr} {es : List Expr} {t : TA} {ta : TE}
/-- o.m(..): the object, then the arguments -/
def tMethG (C : Addr) (m : Str) (sp : Sp) (E : St → XK) (ta : TE) (t : TA) : TE := fun σ H Q => ta σ H fun x H1 => ∃ a dx fs, x = .ref a ∧ H1 a = some (.ins C dx fs) ∧ fs.lookup m = none ∧ t σ H1 fun vs H2 => sp (x :: vs) H2 Q (E σ)
theorem pe_methG (he : PE X o ta) (c : Cls X.K C) (hm : Meth X.K C m f) (F : FnG X.prog X.w X.K X.mg X.base CX k f fd ps sp) (gd : X.A.guards = some []) (room : Room k X.A) (bd : Binds X.K fd ps []) (pa : ∀ σ, PassesAt CX X σ (E σ)) (args : PA X (e :: es) t)
    (hb : attributeBase o m X.env (eval o X.env) = eval o X.env) (hline : (apos.endLine == pos.line) = true) (hall : (backTo pos (starEach (e :: es) X.env)).all (fun x => !x.1) = true) (hl : (e :: es).length < 29)
    (st : starEach (e :: es) X.env = (false, eval e X.env) :: starEach es X.env) (ns : (backTo pos (starEach es X.env)).any (·.1) = false) : PE X (.Call (.Attribute o m apos) (e :: es) [] pos) (tMethG C m sp E ta t) := by
  refine ⟨fun pins s σ H Q I h => ?_⟩
  refine PySem.W.methodCall_KW (thn (he.run pins s σ H _ I h) fun u s1 ⟨x, H1, I1, rx, a, dx, fs, ex, ea, l, q⟩ => ?_) (mcall_tree hb hline hall hl)
  subst ex
  obtain rfl : u = Value.ref a := rx
  refine getmeth_ok I1 ea c hm l ?_
  refine PySem.W.callWith_K (first := [.ref a]) (h₀ := X.base) I.ok.mod.kin hm.kp (thn (args.run pos pins s1 σ H1 _ I1 q) fun us s2 ⟨vs, H2, I2, r, q2⟩ => ⟨I2.kIn, ?_⟩) st ns
  exact workG F gd room bd (pa σ) I2 (show Vals (V.ref a :: vs) (Value.ref a :: us) from .cons rfl r) q2
theorem pe_meth0G (he : PE X o ta) (c : Cls X.K C) (hm : Meth X.K C m f) (F : FnG X.prog X.w X.K X.mg X.base CX k f fd ps sp) (gd : X.A.guards = some []) (room : Room k X.A) (bd : Binds X.K fd ps []) (pa : ∀ σ, PassesAt CX X σ (E σ))
    (hb : attributeBase o m X.env (eval o X.env) = eval o X.env) (hline : (apos.endLine == pos.line) = true) : PE X (.Call (.Attribute o m apos) [] [] pos) (tMethG C m sp E ta tNil) := by
  refine ⟨fun pins s σ H Q I h => ?_⟩
  refine PySem.W.methodCall_KW (thn (he.run pins s σ H _ I h) fun u s1 ⟨x, H1, I1, rx, a, dx, fs, ex, ea, l, q⟩ => ?_) (mcall_tree hb hline rfl (by simp))
  subst ex
  obtain rfl : u = Value.ref a := rx
  refine getmeth_ok I1 ea c hm l ?_
  exact PySem.W.callWith_K0 (first := [.ref a]) I1.kIn hm.kp (workG F gd room bd (pa σ) I1 (show Vals [V.ref a] [Value.ref a] from .cons rfl .nil) q)
theorem make_guards {A : Around} {C : Addr} {us : List Value} {kw : List (Str × Value)} : (A.under (.builtin "type.__call__" ⟨.ref C :: us, kw⟩)).guards = A.guards := by
  first
    | rfl
    | (obtain ⟨hd, d, fr, gs, u⟩ := A
       simp [Around.under, pushGuards, Code.guards, Code.isGuard, guardIds]
       done)
    | (obtain ⟨hd, d, fr, gs, u⟩ := A
       cases gs <;> simp [Around.under, pushGuards, Code.guards, Code.isGuard, guardIds])
/-- C(..): a new object and its dict, then __init__ -/
def tMakeG (C : Addr) (sp : Sp) (E : St → XK) (t : TA) : TE := fun σ H Q => t σ H fun vs H1 => ∀ x dx, H1 x = none → H1 dx = none → dx ≠ x →
  sp (.ref x :: vs) (upd (upd H1 dx (.own x)) x (.ins C dx [])) (fun v H2 => v = .non ∧ Q (.ref x) H2) (E σ)
theorem workMake {pins : List (Addr × Obj)} {σ : L2.St} {H : Hp} {s : Shared} {Q : VK} {us : List Value} {vs : List V} (M : Mk X.K C f) (F : FnG X.prog X.w X.K X.mg X.base CX k f fd ps sp) (gd : X.A.guards = some []) (room : Room (k + 1) X.A) (bd : Binds X.K fd ps []) (pa : PassesAt CX X σ (E σ))
    (I : Inv X pins σ H s) (r : Vals vs us)
    (h : ∀ x dx, H x = none → H dx = none → dx ≠ x → sp (.ref x :: vs) (upd (upd H dx (.own x)) x (.ins C dx [])) (fun v H2 => v = .non ∧ Q (.ref x) H2) (E σ)) :
    wpAny (model X.prog X.w) X.A (call (.ref C) us) (EP X pins σ Q) X.xe s := by
  have hq := h (s.heap.objs.size + 1) s.heap.objs.size (I.hok.fresh (Nat.le_succ _)) (I.hok.fresh (Nat.le_refl _)) (Nat.ne_of_lt (Nat.lt_succ_self _))
  have I2 := Inv.made (C := C) I
  have r2 : Vals (V.ref (s.heap.objs.size + 1) :: vs) (Value.ref (s.heap.objs.size + 1) :: us) := .cons rfl r
  have hl : (Value.ref (s.heap.objs.size + 1) :: us).length = ps.length := by
    rw [← r2.length]
    exact F.lenG _ _ _ _ hq
  have bt : BindsTo { s with heap := (s.heap.push PySem.W.emptyDict).push (PySem.W.instObj C s.heap.objs.size) } fd ⟨Value.ref (s.heap.objs.size + 1) :: us, []⟩ (ps.zip (Value.ref (s.heap.objs.size + 1) :: us)) := by
    have := bd _ (Value.ref (s.heap.objs.size + 1) :: us) I2.kIn (by simpa using hl)
    simpa using this
  refine wpAny_call (make_map (f := f) I.kIn M.makes M.init (beq_iff_eq.mp M.fn) (codeAny_mono (F.runG _ (make_guards.trans gd) X.stack _ _ ⟨Value.ref (s.heap.objs.size + 1) :: us, []⟩ (Value.ref (s.heap.objs.size + 1) :: us) _ _ (E σ) (room.make C us [])
    (I2.env0.make C us []) bt r2 hq) fun r s' hq' => ?_))
  cases r with
  | error e => exact pa pins _ _ e s' I2 hq'
  | ok fl =>
    cases fl with
    | ret u =>
      obtain ⟨v, H', I3, rv, ev, q3⟩ := I2.after hq'
      subst ev
      exact ⟨rv, ⟨V.ref (s.heap.objs.size + 1), H', I3, rfl, q3⟩⟩
    | next => exact False.elim hq'
    | brk => exact False.elim hq'
    | cont => exact False.elim hq'
theorem pe_makeG (M : Mk X.K C f) (F : FnG X.prog X.w X.K X.mg X.base CX k f fd ps sp) (gd : X.A.guards = some []) (room : Room (k + 1) X.A) (gl : Gl X x) (hm : X.mg x = some (.ref C)) (bd : Binds X.K fd ps []) (pa : ∀ σ, PassesAt CX X σ (E σ)) (args : PA X (e :: es) t)
    (nd : (x == ("__debug__" : Str)) = false) (st : starEach (e :: es) X.env = (false, eval e X.env) :: starEach es X.env) (ns : (backTo pos (starEach es X.env)).any (·.1) = false) : PE X (.Call (.Name x p) (e :: es) [] pos) (tMakeG C sp E t) := by
  refine ⟨fun pins s σ H Q I h => ?_⟩
  refine wpAny_Call_Name_kw (ld_glob I gl hm ?_ nd)
  refine PySem.W.callWith_K (h₀ := X.base) I.ok.mod.kin M.kp (thn (args.run pos pins s σ H _ I h) fun us s1 ⟨vs, H1, I1, r, q⟩ => ⟨I1.kIn, ?_⟩) st ns
  exact workMake M F gd room bd (pa σ) I1 r q
end
end
end Ev

/-! EvXi: an own exception whose __init__ says super().__init__(text), then lays its fields. -/
namespace Ev
open PySem PySem.Spec PyProof.Rows L2
/-- nothing is let out -/
def CXn : CXT := fun _ _ _ _ _ _ => False
abbrev veI : String := "ValueError.__init__"
section
variable {prog : Program} {w : World} {A : Around} {E : Value → Shared → Prop} {h : Heap} {g : Array GenState} {d : Drawn} {t : Nat} {os : OsState}
variable {nm q : Str} {C N : Addr} {bs bm : List Value} {hdct : Bool} {sn : List Str} {sub : List Value} {ab : Bool} {col : Option Bool} {dd : Option Addr} {k0 k1 k2 k3 k5 : Option Value}
/-- the bound __init__ of the base, called -/
theorem xi_call {u e t0 : Addr} {rest : List Value} {Q : Value → Shared → Prop}
    (hC : h.get? C = some (excClassObj nm q C N bs bm hdct sn sub ab col dd k0 k1 k2 k3 k5 "ValueError.__new__")) (he : h.get? e = some (HandSPX.excO C t0)) (hu : h.get? u = some (PySem.W.kxs_mw veI e)) (hr : rest.length ≤ sizeLine)
    (hq : ∀ h' t1, (∀ b o, b ≠ e → h.get? b = some o → h'.get? b = some o) → h'.get? e = some (HandSPX.excO C t1) → Q .none ⟨h', g, d, t, os⟩) :
    wpAny (model prog w) A (call (.ref u) rest) Q E ⟨h, g, d, t, os⟩ := by
  refine wpAny_call (codeAny_of_tree ?_)
  show wpAny _ A.in1 (callAny (.ref u) ⟨rest, []⟩) _ _ _
  unfold callAny
  refine wpAny_bind (wpAny_load hu ?_)
  have ty : (Value.type "method-wrapper" == Value.type "method" || Value.type "method-wrapper" == Value.type "builtin_function_or_method" || Value.type "method-wrapper" == Value.type "method-wrapper") = true := by decide
  simp only [PySem.W.kxs_mw, ty, if_true]
  refine PySem.W.KFB.if_so (by decide) (wpAny_bind (PySem.W.check_bound_init PySem.F.excBase_ValueError.toExcCallFacts hC he rfl (wpAny_bind (wpAny_pure (wpAny_pure ⟨Code.quiet_builtin _ (by decide +kernel), codeAny_builtin PySem.F.excBase_ValueError.initEntry ?_⟩)))))
  rw [Around.under_plainId PySem.F.excBase_ValueError.init.plain _]
  wp_walk
  refine hq _ h.objs.size (fun b o hb ho => ?_) ?_
  · rw [Heap.get?_update_other _ _ (Ne.symm hb)]
    exact Heap.get?_push_of_some _ ho
  · rw [Heap.get?_update_self _ (Heap.get?_push_of_some _ he) rfl]
    rfl
end
theorem look_no {x : Str} : ∀ {ps : List Str} {us : List Value}, x ∉ ps → (ps.zip us).reverse.lookup x = none
  | [], _, _ => rfl
  | _ :: _, [], _ => rfl
  | p :: ps, u :: us, h => by
    have h1 : x ≠ p := fun z => h (z ▸ List.mem_cons_self)
    have h2 := look_no (us := us) fun z => h (List.mem_cons_of_mem p z)
    rw [List.zip_cons_cons, List.reverse_cons, List.lookup_append, h2]
    have : (x == p) = false := by simpa using h1
    simp [List.lookup, this]
theorem look_rev {x : Str} {v : Value} : ∀ {ps : List Str} {us : List Value} {i : Nat}, ps.Nodup → ps[i]? = some x → us[i]? = some v → (ps.zip us).reverse.lookup x = some v
  | [], _, _, _, h, _ => by simp at h
  | _ :: _, [], _, _, _, h => by simp at h
  | p :: ps, u :: us, 0, nd, h1, h2 => by
    simp only [List.getElem?_cons_zero, Option.some.injEq] at h1 h2
    subst h1; subst h2
    rw [List.zip_cons_cons, List.reverse_cons, List.lookup_append, look_no (List.nodup_cons.mp nd).1]
    simp [List.lookup]
  | p :: ps, u :: us, i + 1, nd, h1, h2 => by
    simp only [List.getElem?_cons_succ] at h1 h2
    rw [List.zip_cons_cons, List.reverse_cons, List.lookup_append, look_rev (List.nodup_cons.mp nd).2 h1 h2]
    rfl
/-- the scope of such an __init__ -/
structure XiScope (N ps : List Str) (sc : Scope) : Prop where
  kind : sc.kind = .function
  co : sc.isCoroutine = false
  gen : sc.isGenerator = false
  nd : N.Nodup
  pre : N.take ps.length = ps
  par : ∀ x ∈ ps, sc.names.lookup x = some .local
  nocell : ∀ y ∈ sc.names, y.2 ≠ .cell
  free : ∀ x, sc.names.lookup x = some .free → x = "__class__"
  cls : sc.names.lookup ("__class__" : Str) = some .free
  sup : sc.names.lookup ("super" : Str) = some .globalImplicit
/-- its context -/
def cxI (P : Program) (w : World) (K : PySem.W.Frag) (mg : Str → Option Value) (base : Heap) (N : List Str) (qual : Str) (scope : Scope) (f cda cc : Addr) (A : Around) (outer : List Env) (s : Shared) (H : Hp) : Cx where
  prog := P
  w := w
  K := K
  mg := mg
  base := base
  A := A.deeper (PySem.W.ksEnv qual scope s.heap.objs.size f (.ref cda) cc)
  N := N
  s_0 := s
  H_0 := H
  env := PySem.W.ksEnv qual scope s.heap.objs.size f (.ref cda) cc
  outer := outer
  stack := PySem.W.ksEnv qual scope s.heap.objs.size f (.ref cda) cc :: outer
  ex := []
  calm := true
  fn := fun x => decide (x ≠ "__class__")
  pn := []
  xe := fun _ _ => False
section
variable {P : Program} {w : World} {K : PySem.W.Frag} {mg : Str → Option Value} {base : Heap} {N ps : List Str} {qual : Str} {scope : Scope} {f cda cc C : Addr} {A : Around} {outer : List Env} {s : Shared} {H : Hp} {us : List Value} {vs : List V}
theorem xi_start (S : XiScope N ps scope) (hd : A.handled = none) (e0 : Env0 P w K mg base A outer s H) (hl : vs.length = ps.length) (r : Vals vs us) {cl : Value} {cld : Option Addr} {csl : Array (Option Value)} (hcell : K.lookup cc = some ⟨cl, cld, .cell (some (.ref C)), csl⟩)
    {h₁ : Heap} {tk : Nat} (hns : h₁.Ns s.heap.objs.size (fun x => (ps.zip us).reverse.lookup x)) (hk : ∀ b o, s.heap.get? b = some o → h₁.get? b = some o) :
    Inv (cxI P w K mg base N qual scope f cda cc A outer s H) [] (L2.start N vs) H { s with heap := h₁, toks := tk } := by
  have hpl : ps.length ≤ N.length := by have := congrArg List.length S.pre; rw [List.length_take] at this; omega
  have noA : ∀ b : Addr, b ∉ (cxI P w K mg base N qual scope f cda cc A outer s H).ex := fun b z => absurd (show b ∈ ([] : List Addr) from z) (by simp)
  have cl1 : ∀ y c, (cxI P w K mg base N qual scope f cda cc A outer s H).env.cells.lookup y = some c → y = "__class__" ∧ c = cc := fun y c h => by
    have h : ([(("__class__" : Str), cc)] : List (Str × Addr)).lookup y = some c := h
    simp only [List.lookup] at h
    split at h
    · rename_i z
      simp only [Option.some.injEq] at h
      exact ⟨by simpa using z, h.symm⟩
    · cases h
  have cb : base.get? cc = some ⟨cl, cld, .cell (some (.ref C)), csl⟩ := e0.mod.kin _ _ hcell
  obtain ⟨cs, cH⟩ := e0.bs _ _ cb
  have c1 : h₁.IsCell cc (some (.ref C)) := ⟨_, hk _ _ cs, rfl⟩
  refine ⟨⟨e0.mod, S.kind, rfl, rfl, Nat.le_refl _, fun y z c h1 h2 => ((cl1 y c h1).1).trans ((cl1 z c h2).1).symm, fun y hy => ?_, fun y c hf h => ?_, fun _ => hd, Around.frames_deeper e0.frames, .inr ⟨rfl, rfl⟩, fun b z => absurd z (noA b), e0.bs, e0.bsz, fun b _ _ => noA b, fun b z => absurd z (noA b), e0.funs, e0.frf⟩,
    rfl, e0.bare, Un.kept hk, ⟨_, hns, fun i y v h1 h2 h3 => ?_⟩, fun y c h => ?_, e0.hok.fresh (Nat.le_refl _), fun y c h => ?_, fun p hp => absurd (show p ∈ ([] : List (Addr × Obj)) from hp) (by simp), e0.hok.kept hk, ?_⟩
  · have hy : scope.names.lookup y = some .cell ∨ scope.names.lookup y = some .free := hy
    rcases hy with hy | hy
    · exact absurd rfl (S.nocell _ (PySem.mem_of_lookup hy))
    · rw [S.free y hy]
      exact ⟨cc, by simp [cxI, List.lookup]⟩
  · have := (cl1 y c h).1
    subst this
    simp [cxI] at hf
  · have hi : i < vs.length := by
      unfold L2.start at h2
      by_cases hi : i < vs.length
      · exact hi
      · rw [List.getElem?_append_right (by simpa using hi)] at h2
        rw [List.getElem?_replicate] at h2
        split at h2 <;> cases h2
    have ha : vs[i]? = some v := by
      unfold L2.start at h2
      rw [List.getElem?_append_left (by simpa using hi), List.getElem?_map] at h2
      cases e : vs[i]? with
      | none => rw [e] at h2; cases h2
      | some a => rw [e] at h2; cases h2; rfl
    obtain ⟨u, hu, rv⟩ := r.get ha
    have hp : ps[i]? = some y := by
      rw [← S.pre, List.getElem?_take_of_lt (by omega)]; exact h1
    have ndP : ps.Nodup := by rw [← S.pre]; exact S.nd.sublist (List.take_sublist _ _)
    exact ⟨u, rv, .inl ⟨S.par y (List.mem_of_getElem? hp), look_rev ndP hp hu⟩⟩
  · obtain ⟨rfl, rfl⟩ := cl1 y c h
    exact ⟨_, c1⟩
  · obtain ⟨rfl, rfl⟩ := cl1 y c h
    exact cH
  · unfold L2.start
    show _ = N.length
    rw [List.length_append, List.length_map, List.length_replicate]
    omega
end
/-- what must be known of such a class and its __init__ -/
structure XiC (P : Program) (K : PySem.W.Frag) (C f cda cc : Addr) (qual : Str) (params : Arguments) (body : List Stmt) (scope : Scope) (fd : FuncData) : Prop where
  oex : OexC K C
  fn : ∃ (oc : Value) (od : Option Addr) (dV kV doc pm ct : Value) (an : Option Addr) (osl : Array (Option Value)), fd = PySem.W.ksFn "__init__" qual params body scope dV kV doc pm an (.ref cda) ct cc ∧ K.lookup f = some ⟨oc, od, .func fd, osl⟩
  code : PySem.W.codeIn K (.ref cda) qual = true
  file : ∃ (ccl : Value) (cdd : Option Addr) (vs : Array Value) (ccs : Array (Option Value)) (file : Str) (tf : Tok), K.lookup cda = some ⟨ccl, cdd, .fields vs, ccs⟩ ∧ vs[2]? = some (.str file tf) ∧ ((P.main.file : Str) == file) = true
  cell : ∃ (cl : Value) (cld : Option Addr) (csl : Array (Option Value)), K.lookup cc = some ⟨cl, cld, .cell (some (.ref C)), csl⟩
  cls : ∃ cd, PySem.W.clsIn K C = some cd
  sub : PySem.W.mroIn K C (.ref C) = some true
  sup : PySem.W.ks_superIn K C C "__init__" = some (some (.builtin veI))
  subV : PySem.W.subIn K (.ref C) (.type "ValueError") = some true
  any : PySem.W.nsIn K cStatics "thirdparty.any" = some none
  supG : PySem.W.nsIn K mainGlobals "super" = some none
  top : (P.main.scope.names.lookup ("super" : Str)).isSome = false
  self : ((params.posonlyargs ++ params.args).head?.map (·.arg)) = some ("self" : Str)
section
variable {P : Program} {w : World} {K : PySem.W.Frag} {mg : Str → Option Value} {base : Heap} {N ps : List Str} {qual : Str} {params : Arguments} {scope : Scope} {f cda cc C : Addr} {fd : FuncData} {k : Nat} {sp : Sp} {e : Expr} {rest : List Stmt} {p0 p1 p2 p3 p4 : Pos}
theorem xi_fn (F : XiC P K C f cda cc qual params (.Expr (.Call (.Attribute (.Call (.Name "super" p0) [] [] p1) "__init__" p2) [e] [] p3) p4 :: rest) scope fd) (S : XiScope N ps scope) (hself : ps.head? = some ("self" : Str))
    (len : ∀ vs H Q E, sp vs H Q E → vs.length = ps.length) (hst : ∀ env, starEach [e] env = [(false, eval e env)]) (pl : Env → Sem Bool)
    (hcall : ∀ env, eval (.Call (.Attribute (.Call (.Name "super" p0) [] [] p1) "__init__" p2) [e] [] p3) env = (do
      let ov ← attributeBase (.Call (.Name "super" p0) [] [] p1) "__init__" env (eval (.Call (.Name "super" p0) [] [] p1) env)
      standAt p2.atName
      let (f, first) ← holding [ov] (getMethod ov "__init__" (pl env))
      callWith p3 f first (backTo p3 (starEach [e] env)) []))
    (hbody : ∀ (A : Around) (outer : List Env) (s : Shared) (H : Hp) (vs : List V) (Q : VK) (E : XK), Room k (A.deeper (PySem.W.ksEnv qual scope s.heap.objs.size f (.ref cda) cc)) → sp vs H Q E →
      ∃ (a : Addr) (te : TE) (tr : TS), vs.head? = some (.ref a) ∧ H a = some (exo a C none) ∧ PE (cxI P w K mg base N qual scope f cda cc A outer s H) e te ∧ PSs (cxI P w K mg base N qual scope f cda cc A outer s H) rest tr ∧
        te (L2.start N vs) H fun _ H1 => H1 = H ∧ tr { nx := fun _ H' => Q .non H', rt := fun _ _ => False } (L2.start N vs) H) :
    FnOk P w K mg base CXn (k + 1) f fd ps sp := by
  obtain ⟨oc, od, dV, kV, doc, pm, ct, an, osl, rfl, lk⟩ := F.fn
  refine ⟨len, fun A outer s H args us vs Q E hr e0 hb r hsp => ?_⟩
  have hl := len _ _ _ _ hsp
  have KX : K.In s.heap := e0.mod.kin.keeps fun b o e => (e0.bs b o e).1
  have lim : s.heap.NoLimit := e0.mod.nolimit.keeps fun b o e => (e0.bs b o e).1
  obtain ⟨cl, cld, csl, hcell⟩ := F.cell
  obtain ⟨ccl, cdd, cvs, ccs, file, tf, hcode, hvs, hfile⟩ := F.file
  obtain ⟨cd, hcd⟩ := F.cls
  refine PySem.ks_codeAny_call_defAt (binds := ps.zip us) hr.depth (KX _ _ lk) rfl lim (PySem.W.codeRec_of KX F.code) rfl hb S.nocell (fun y hy => S.par y.1 (List.of_mem_zip (a := y.1) (b := y.2) hy).1) (fun h₁ hns hk => ?_) S.co S.gen S.kind
  obtain ⟨a, te, tr, hv0, hHa, pe, pss, q⟩ := hbody A outer s H vs Q E (hr.deeper _) hsp
  have I := xi_start (P := P) (w := w) (qual := qual) (f := f) (cda := cda) (tk := s.toks + (ps.zip us).length) S hr.hd e0 hl r hcell hns hk
  obtain ⟨L, hL⟩ : ∃ L, s.heap.objs.size = L := ⟨_, rfl⟩
  obtain ⟨X, hX⟩ : ∃ X, cxI P w K mg base N qual scope f cda cc A outer s H = X := ⟨_, rfl⟩
  have oex := F.oex
  obtain ⟨t1, hxa⟩ := exo_at I.hok hHa
  obtain ⟨nm, qn, Nn, bs, bm, sn, sub, ab, col, dd, k0, k1, k2, k3, k5, hC, hbm⟩ := oex.cls
  have hC1 := I.kIn _ _ hC
  obtain ⟨ar, har, harg⟩ : ∃ ar, (params.posonlyargs ++ params.args).head? = some ar ∧ ar.arg = ("self" : Str) := by
    have z := F.self
    cases e : (params.posonlyargs ++ params.args).head? with
    | none => rw [e] at z; cases z
    | some ar => rw [e] at z; exact ⟨ar, rfl, Option.some.inj z⟩
  have hps0 : ps[0]? = some ("self" : Str) := by cases ps <;> simp at hself ⊢; exact hself
  have hus0 : us[0]? = some (.ref a) := by
    have hv : vs[0]? = some (.ref a) := by cases vs <;> simp at hv0 ⊢; exact hv0
    obtain ⟨u, hu, rv⟩ := r.get hv
    cases (show u = Value.ref a from rv)
    exact hu
  have ndP : ps.Nodup := by rw [← S.pre]; exact S.nd.sublist (List.take_sublist _ _)
  have hself2 := look_rev (x := ("self" : Str)) ndP hps0 hus0
  obtain ⟨mb, hmb, hbt⟩ := I.ok.mod.blt
  have IA : PySem.W.InstAt h₁ a { cls := .ref C, dict := none, data := .fields #[.ref t1, .none, .none, .none, .bool false, .none] } C none := ⟨hxa, rfl, rfl, trivial⟩
  have hne := PySem.W.ks_ne I.kIn IA hcd
  have hsup : PySem.W.alongIn K "__init__" ((cd.mro.dropWhile (· != .ref C)).drop 1) = some (some (.builtin veI)) := by
    have z := F.sup
    unfold PySem.W.ks_superIn at z
    rw [hcd] at z
    exact z
  show _root_.PySem.wpAt (model P w) (A.deeper (PySem.W.ksEnv qual scope s.heap.objs.size f (.ref cda) cc)) (.func (.Expr (.Call (.Attribute (.Call (.Name "super" p0) [] [] p1) "__init__" p2) [e] [] p3) p4 :: rest) (PySem.W.ksEnv qual scope s.heap.objs.size f (.ref cda) cc)) (execs (.Expr (.Call (.Attribute (.Call (.Name "super" p0) [] [] p1) "__init__" p2) [e] [] p3) p4 :: rest) (PySem.W.ksEnv qual scope s.heap.objs.size f (.ref cda) cc)) _ _ _
  refine PySem.ks_wpAt_execs_cons (PySem.ks_wpAt_Expr_any (PySem.ks_wpAt_MethodCall (pl := pl _) ?_ (hcall _)) I.quiet rfl)
  refine PySem.ks_wpAt_super_base (env := PySem.W.ksEnv qual scope s.heap.objs.size f (.ref cda) cc) S.sup S.cls (by decide) rfl (I.kIn _ _ lk) rfl har rfl (I.kIn _ _ hcode) rfl hvs hfile F.top ?_
  refine PySem.W.ks_loadName_global S.kind S.sup (Calls.loadGlobal_builtin (env := PySem.W.ksEnv qual scope s.heap.objs.size f (.ref cda) cc) (I.ok.mod.glob.keeps I.bk) (PySem.W.mg_none_of I.ok.mod.kin I.ok.mod.glob F.supG) (hmb.keeps I.bk) ((hbt _ (by decide +kernel)).trans rfl) ⟨rfl, ?_⟩)
  refine wpAny_loadName_free S.kind S.cls rfl ⟨_, I.kIn _ _ hcell, rfl⟩ ?_
  rw [harg]
  refine wpAny_loadName_local S.kind (S.par _ (List.mem_of_getElem? hps0)) hns hself2 ?_
  refine PySem.ks_wpAny_isType_cls hC1 rfl ⟨rfl, ?_⟩
  obtain ⟨hp, g, d, t, os⟩ := s
  refine PySem.ks_wpAny_call_super hC1 rfl hxa rfl (fun c z => by cases z) (PySem.W.looks_mroIn I.kIn F.sub) fun h2 hso k2' => ?_
  have I1 := I.kept (t' := t + (ps.zip us).length) k2'
  obtain ⟨t2, hxa2⟩ := exo_at I1.hok hHa
  have IA2 : PySem.W.InstAt h2 a { cls := .ref C, dict := none, data := .fields #[.ref t2, .none, .none, .none, .bool false, .none] } C none := ⟨hxa2, rfl, rfl, trivial⟩
  refine PySem.W.kxs_getMethod PySem.W.kxs_ValueError hso (PySem.W.looks_opaque I1.kIn F.any) (l₀ := cd.mro) ((PySem.W.looks_clsIn I1.kIn hcd).andThen .now) rfl I1.kIn hsup (IA2.type.andThen (PySem.W.looks_subIn I1.kIn F.subV)) hne (by decide) ?_
  obtain ⟨u, hu⟩ : ∃ u, h2.objs.size = u := ⟨_, rfl⟩
  have hmw : (h2.push (PySem.W.kxs_mw veI a)).get? u = some (PySem.W.kxs_mw veI a) := by rw [← hu]; exact Heap.get?_push_at rfl rfl
  have k3 : ∀ b o, h2.get? b = some o → (h2.push (PySem.W.kxs_mw veI a)).get? b = some o := fun b o z => Heap.get?_push_of_some _ z
  have I2 := I1.kept (t' := t + (ps.zip us).length + 1) k3
  have un : h2.get? u = none := by
    cases z : h2.get? u with
    | none => rfl
    | some o => exact absurd (Heap.lt_size z) (by rw [← hu]; exact Nat.lt_irrefl _)
  have uH : H u = none := I1.hok.fresh (Nat.le_of_eq hu)
  have uL : u ≠ (cxI P w K mg base N qual scope f cda cc A outer ⟨hp, g, d, t, os⟩ H).env.locals := fun z => by
    obtain ⟨m, hn, _⟩ := I1.loc
    obtain ⟨o, _, _, e1, _⟩ := hn
    have e1 : h2.get? u = some o := by rw [z]; exact e1
    rw [un] at e1
    cases e1
  have uF : u ∉ (cxI P w K mg base N qual scope f cda cc A outer ⟨hp, g, d, t, os⟩ H).fs := fun z => by
    obtain ⟨_, o', e', _⟩ := I1.stack.mem (List.mem_filterMap.mpr (by
      obtain ⟨en, h1, h2⟩ := List.mem_filterMap.mp z
      exact ⟨en, List.mem_cons_of_mem _ h1, h2⟩))
    have e' : h2.get? u = some o' := e'
    rw [un] at e'
    cases e'
  have I3 := I2.pins_of (pins' := [(u, PySem.W.kxs_mw veI a)]) fun p hp => by
    rw [List.mem_singleton.mp hp]
    exact ⟨hmw, uH, uL, uF, fun v z => by cases z⟩
  rw [hu]
  show wpAny _ _ (callWith p3 (.ref u) [] (backTo p3 (starEach [e] _)) []) _ _ _
  rw [hst]
  refine PySem.W.kxs_callWith (i := veI) (x := a) rfl (Calls.evalArgs_plain (Calls.spliced_cons (wpAny_mono (pe.run [(u, PySem.W.kxs_mw veI a)] _ _ H _ I3 q) (fun v0 s1 hv => ?_) fun _ _ z => z.elim)))
  obtain ⟨v, H1, I4, rv, rfl, q2⟩ := hv
  refine Calls.spliced_nil ⟨(I4.pin _ (List.mem_append_right _ List.mem_cons_self)).1, ?_⟩
  obtain ⟨hp4, g4, d4, t4, os4⟩ := s1
  obtain ⟨t5, hxa4⟩ := exo_at I4.hok hHa
  refine xi_call (I4.kIn _ _ hC) hxa4 (I4.pin _ (List.mem_append_right _ List.mem_cons_self)).1 (by show 1 ≤ sizeLine; rw [sizeLine_eq]; omega) fun h5 t6 k5 hx5 => ?_
  have J := I4.write (t' := t4) (x := a) (e := a) (o := exo a C none) (by rw [hHa]; exact True.intro) (.inl rfl) k5 ⟨_, hx5⟩ (exo_ok hx5)
  have eu : upd H1 a (exo a C none) = H1 := by
    funext b
    by_cases hb : b = a
    · rw [hb, upd_same, hHa]
    · rw [upd_ne hb]
  rw [eu] at J
  have J := J.pins_of (pins' := []) fun p hp => absurd hp (by simp)
  refine wpAt_of_wpAny (wpAny_mono (pss.run [] _ _ _ _ J q2) (fun fl s' hs => ?_) fun _ _ z => z.elim)
  have fin : ∀ {σ' : L2.St} {H' : Hp} {v : V} {u : Value}, Inv (cxI P w K mg base N qual scope f cda cc A outer ⟨hp, g, d, t, os⟩ H1) [] σ' H' s' → RelV v u → Q v H' → CE outer P w H1 ⟨hp, g, d, t, os⟩ Q u s' :=
    fun {σ' H' v u} J rv q => ⟨v, H', J.os, J.bare, J.base, J.hok, rv, q⟩
  cases fl with
  | ret u =>
    obtain ⟨v, σ', H', J, rv, q⟩ := hs
    exact False.elim q
  | next =>
    obtain ⟨σ', H', J, q⟩ := hs
    exact fin (v := V.non) (u := Value.none) J rfl q
  | brk =>
    obtain ⟨_, _, _, q⟩ := hs
    exact False.elim q
  | cont =>
    obtain ⟨_, _, _, q⟩ := hs
    exact False.elim q
end
/-! ### the text that is handed on -/
/-- the parameters' values -/
def SvAll (σ : L2.St) (ds : List PyData) : Prop := ∀ (j : Nat), (∀ k, ds[j]? = some (PyData.int k) → σ[j + 1]? = some (some (V.int k))) ∧ (∀ z, ds[j]? = some (PyData.str z) → σ[j + 1]? = some (some (V.str z)))
def tMg (g : Mg) : TE := fun σ H Q => ∃ ds s, SvAll σ ds ∧ evMg g ds = some s ∧ Q (.str s) H
def locN (sc : Scope) (N : List Str) (j : Nat) (y : Str) : Bool := decide (N[j]? = some y) && decide (sc.names.lookup y = some .local) && plainN y
def matG (sc : Scope) (N : List Str) : Mg → Expr → Bool
  | .c s, .Constant (.str t) _ _ => decide (s = t)
  | .st i, .Call (.Name z _) [.Name y _] [] _ => decide (z = ("str" : Str)) && isGl sc z && locN sc N (i + 1) y
  | .v i, .Name y _ => locN sc N (i + 1) y
  | .ad a b, .BinOp p .Add q _ => matG sc N a p && matG sc N b q
  | _, _ => false
theorem locN_ok {sc : Scope} {N : List Str} {j : Nat} {y : Str} (h : locN sc N j y = true) : N[j]? = some y ∧ sc.names.lookup y = some .local ∧ (y == ("__debug__" : Str)) = false ∧ (y == ("__classdict__" : Str)) = false := by
  unfold locN plainN at h
  simp only [Bool.and_eq_true, decide_eq_true_eq] at h
  obtain ⟨⟨h1, h2⟩, ⟨h3, h4⟩, _⟩ := h
  exact ⟨h1, h2, by simpa using h3, by simpa using h4⟩
theorem pe_mg {X : Cx} {sc : Scope} {N : List Str} (hN : X.N = N) (hs : X.env.scope = sc) (hstr : X.mg "str" = none) : ∀ (g : Mg) (e : Expr), matG sc N g e = true → PE X e (tMg g)
  | .c s, e, h => by
    cases e <;> try (simp [matG] at h; done)
    rename_i c j pos
    cases c <;> try (simp [matG] at h; done)
    simp only [matG, decide_eq_true_eq] at h
    subst h
    refine pe_str.weak fun σ H Q q => ?_
    obtain ⟨ds, s, _, e, q⟩ := q
    simp only [evMg, Option.some.injEq] at e
    subst e
    exact q
  | .v i, e, h => by
    cases e <;> try (simp [matG] at h; done)
    rename_i y pos
    obtain ⟨h1, h2, h3, h4⟩ := locN_ok (show locN sc N (i + 1) y = true from h)
    refine (pe_var (i := i + 1) (by rw [hN]; exact h1) (.inl (by rw [hs]; exact h2)) h3 h4).weak fun σ H Q q => ?_
    obtain ⟨ds, s, sv, e, q⟩ := q
    simp only [evMg] at e
    split at e
    · rename_i z ez
      cases e
      exact ⟨_, (sv i).2 _ ez, q⟩
    · cases e
  | .st i, e, h => by
    cases e <;> try (simp [matG] at h; done)
    rename_i fe args kws pos
    cases fe <;> try (simp [matG] at h; done)
    rename_i z pz
    rcases args with _ | ⟨a, _ | ⟨b, r⟩⟩ <;> try (simp [matG] at h; done)
    cases a <;> try (simp [matG] at h; done)
    rename_i y py
    cases kws <;> try (simp [matG] at h; done)
    simp only [matG, Bool.and_eq_true, decide_eq_true_eq] at h
    obtain ⟨⟨rfl, hg⟩, hl⟩ := h
    obtain ⟨h1, h2, h3, h4⟩ := locN_ok hl
    have hg2 : Gl X "str" := by
      unfold isGl at hg
      have := of_decide_eq_true hg
      show X.env.kindOf "str" = _
      unfold Env.kindOf
      rw [hs]
      exact this
    refine (pe_callTy call_str_int hg2 hstr (by decide +kernel) (pa_cons (pe_var (i := i + 1) (by rw [hN]; exact h1) (.inl (by rw [hs]; exact h2)) h3 h4) pa_nil (by rfl)) (by decide +kernel) (by decide +kernel) (by rfl) (by rfl)).weak fun σ H Q q => ?_
    obtain ⟨ds, s, sv, e, q⟩ := q
    simp only [evMg] at e
    split at e
    · rename_i k ek
      split at e
      · rename_i hk
        cases e
        exact ⟨_, (sv i).1 _ ek, k, rfl, hk, q⟩
      · cases e
    · cases e
  | .ad a b, e, h => by
    cases e <;> try (simp [matG] at h; done)
    rename_i p o q pos
    cases o <;> try (simp [matG] at h; done)
    simp only [matG, Bool.and_eq_true] at h
    refine (pe_op op_add_str (pe_mg hN hs hstr a p h.1) (pe_mg hN hs hstr b q h.2)).weak fun σ H Q z => ?_
    obtain ⟨ds, s, sv, e, z⟩ := z
    simp only [evMg] at e
    split at e
    · rename_i x y ex ey
      split at e
      · rename_i hl
        cases e
        exact ⟨ds, x, sv, ex, ds, y, sv, ey, x, y, rfl, rfl, by rw [sizeLine_eq]; have : SZ = 16777216 := rfl; omega, z⟩
      · cases e
    · cases e
/-! ### the fields that are laid -/
def matAs (sc : Scope) (N : List Str) : List Str → Nat → List Stmt → Bool
  | [], _, [] => true
  | f :: fs, j, .Assign [.Attribute (.Name o _) f' _] (.Name y _) _ :: r => locN sc N 0 o && decide (f = f') && locN sc N j y && matAs sc N fs (j + 1) r
  | _, _, _ => false
def tAs (K : PySem.W.Frag) : List Str → Nat → TS
  | [], _ => tNext
  | f :: fs, j => tSeq (tOst K f (tVar 0) (tVar j)) (tAs K fs (j + 1))
theorem pss_as {X : Cx} {sc : Scope} {N : List Str} (hN : X.N = N) (hs : X.env.scope = sc) : ∀ (fs : List Str) (j : Nat) (r : List Stmt), matAs sc N fs j r = true → PSs X r (tAs X.K fs j)
  | [], j, r, h => by
    cases r with
    | nil => exact pss_nil
    | cons _ _ => simp [matAs] at h
  | f :: fs, j, r, h => by
    cases r with
    | nil => simp [matAs] at h
    | cons s r =>
      cases s <;> try (simp [matAs] at h; done)
      rename_i tgs val pos
      rcases tgs with _ | ⟨tg, _ | ⟨tg2, tgs⟩⟩ <;> try (simp [matAs] at h; done)
      cases tg <;> try (simp [matAs] at h; done)
      rename_i o f' pa
      cases o <;> try (simp [matAs] at h; done)
      rename_i o po
      cases val <;> try (simp [matAs] at h; done)
      rename_i y py
      simp only [matAs, Bool.and_eq_true, decide_eq_true_eq] at h
      obtain ⟨⟨⟨h1, rfl⟩, h2⟩, h3⟩ := h
      obtain ⟨a1, a2, a3, a4⟩ := locN_ok h1
      obtain ⟨b1, b2, b3, b4⟩ := locN_ok h2
      exact pss_cons (ps_ost (pe_var (i := 0) (by rw [hN]; exact a1) (.inl (by rw [hs]; exact a2)) a3 a4) (pe_var (i := j) (by rw [hN]; exact b1) (.inl (by rw [hs]; exact b2)) b3 b4)) (pss_as hN hs fs (j + 1) r h3)
theorem as_old {K : PySem.W.Frag} {C a dx : Addr} (T : OexC K C) {σ : L2.St} {D : Ends} (h0 : σ[0]? = some (some (.ref a))) (hda : dx ≠ a) : ∀ (fs : List Str) (j : Nat) (ws : List V) (H : Hp) (done : List (Str × V)), fs.length = ws.length → done.length + fs.length ≤ 900 →
    (∀ f ∈ fs, PySem.W.findIn K (.ref C) f = some none) → (∀ i v, ws[i]? = some v → σ[j + i]? = some (some v)) → H a = some (exo a C (some dx)) → H dx = some (exd dx done) → D.nx σ (upd H dx (exd dx ((fs.zip ws).reverse ++ done))) → tAs K fs j D σ H
  | [], j, ws, H, done, hl, hz, hf, hv, ea, ed, q => by
    have e : upd H dx (exd dx done) = H := by
      funext b
      by_cases hb : b = dx
      · rw [hb, upd_same, ed]
      · rw [upd_ne hb]
    have q : D.nx σ (upd H dx (exd dx done)) := q
    rw [e] at q
    exact q
  | f :: fs, j, [], H, done, hl, _, _, _, _, _, _ => by simp at hl
  | f :: fs, j, w :: ws, H, done, hl, hz, hf, hv, ea, ed, q => by
    have vj := hv 0 w rfl
    simp only [List.length_cons] at hz
    refine ⟨w, by simpa using vj, .ref a, h0, a, C, rfl, T, hf f List.mem_cons_self, .inr ⟨dx, done, ea, ed, by omega, ?_⟩⟩
    refine as_old T h0 hda fs (j + 1) ws _ ((f, w) :: done) (by simpa using hl) (by simp only [List.length_cons]; omega) (fun f hf' => hf f (List.mem_cons_of_mem _ hf')) (fun i v e => by rw [show j + 1 + i = j + (i + 1) by omega]; exact hv (i + 1) v (by simpa using e)) (by rw [upd_ne (Ne.symm hda)]; exact ea) upd_same ?_
    rw [upd_upd]
    simpa using q
/-- what such an __init__ promises -/
def SvL (ws : List V) (ds : List PyData) : Prop := ∀ (j : Nat), (∀ k, ds[j]? = some (PyData.int k) → ws[j]? = some (V.int k)) ∧ (∀ z, ds[j]? = some (PyData.str z) → ws[j]? = some (V.str z))
def spI (C : Addr) (fs : List Str) (g : Mg) : Sp := fun vs H Q _ => ∃ (a : Addr) (ws : List V) (ds : List PyData), vs = .ref a :: ws ∧ ws.length = fs.length ∧ H a = some (exo a C none) ∧ SvL ws ds ∧ (evMg g ds).isSome = true ∧
  ∀ dx H2, dx ≠ a → H dx = none → H2 a = some (exo a C (some dx)) → H2 dx = some (exd dx (fs.zip ws).reverse) → (∀ b, b ≠ a → b ≠ dx → H2 b = H b) → Q .non H2
theorem xi_eq {sc : Scope} {N : List Str} {g : Mg} {e : Expr} (h : matG sc N g e = true) (p0 p1 p2 p3 : Pos) (hline : (p2.endLine == p3.line) = true) : ∃ pl : Env → Sem Bool, ∀ env, eval (.Call (.Attribute (.Call (.Name "super" p0) [] [] p1) "__init__" p2) [e] [] p3) env = (do
      let ov ← attributeBase (.Call (.Name "super" p0) [] [] p1) "__init__" env (eval (.Call (.Name "super" p0) [] [] p1) env)
      standAt p2.atName
      let (f, first) ← holding [ov] (getMethod ov "__init__" (pl env))
      callWith p3 f first (backTo p3 (starEach [e] env)) []) := by
  refine ⟨fun env => (do return (← importBound (.Call (.Name "super" p0) [] [] p1) env).getD true), fun env => ?_⟩
  have hpos : methodCallPos true (.Call (.Name "super" p0) [] [] p1) env p2 p3 = pure p3 := by unfold methodCallPos; simp [hline]
  have hform : methodCallForm (1 + 0) (backTo p3 (starEach [e] env)) [] = true := by
    cases g <;> cases e <;> try (simp [matG] at h; done)
    · rfl
    · rfl
    · rfl
    · rfl
  rw [arm_eval_Call]
  unfold methodCall
  show (do
      let ov ← attributeBase (.Call (.Name "super" p0) [] [] p1) "__init__" env (eval (.Call (.Name "super" p0) [] [] p1) env)
      standAt p2.atName
      let (f, first) ← holding [ov] (calleeOf (methodCallForm (1 + 0) (backTo p3 (starEach [e] env)) []) (.Call (.Name "super" p0) [] [] p1) env ov "__init__")
      let callPos ← methodCallPos (methodCallForm (1 + 0) (backTo p3 (starEach [e] env)) []) (.Call (.Name "super" p0) [] [] p1) env p2 p3
      callWith callPos f first (backTo p3 (starEach [e] env)) []) = _
  rw [hform, hpos]
  rfl
theorem star_g {sc : Scope} {N : List Str} {g : Mg} {e : Expr} (h : matG sc N g e = true) (env : Env) : starEach [e] env = [(false, eval e env)] := by
  cases g <;> cases e <;> try (simp [matG] at h; done)
  · rfl
  · rfl
  · rfl
  · rfl
def xiSc (i : Ini) : Bool := decide ((defScope i.st).kind = .function) && decide ((defScope i.st).isCoroutine = false) && decide ((defScope i.st).isGenerator = false) && decide i.N.Nodup && decide (i.N.take i.ps.length = i.ps) && i.ps.all (fun x => decide ((defScope i.st).names.lookup x = some .local)) &&
  (defScope i.st).names.all (fun y => decide (y.2 ≠ .cell)) && (defScope i.st).names.all (fun y => decide (y.2 ≠ .free) || decide (y.1 = ("__class__" : Str))) && decide ((defScope i.st).names.lookup ("__class__" : Str) = some .free) && decide ((defScope i.st).names.lookup ("super" : Str) = some .globalImplicit)
theorem xiSc_ok {i : Ini} (h : xiSc i = true) : XiScope i.N i.ps (defScope i.st) := by
  unfold xiSc at h
  simp only [Bool.and_eq_true, decide_eq_true_eq, List.all_eq_true, Bool.or_eq_true] at h
  obtain ⟨⟨⟨⟨⟨⟨⟨⟨⟨h1, h2⟩, h3⟩, h4⟩, h5⟩, h6⟩, h7⟩, h8⟩, h9⟩, h10⟩ := h
  refine ⟨h1, h2, h3, h4, h5, h6, h7, fun x hx => ?_, h9, h10⟩
  rcases h8 _ (PySem.mem_of_lookup hx) with z | z
  · exact absurd rfl z
  · exact z
def iniB (i : Ini) (fl : List Str) : Bool := xiSc i && decide (i.ps.head? = some ("self" : Str)) && decide (i.ps.length = fl.length + 1) && decide (i.N.length = i.ps.length) && (match defBody i.st with
  | .Expr (.Call (.Attribute (.Call (.Name z _) [] [] _) m p2) [e] [] p3) _ :: rest => (p2.endLine == p3.line) && decide (z = ("super" : Str)) && decide (m = ("__init__" : Str)) && matG (defScope i.st) i.N i.mg e && matAs (defScope i.st) i.N fl.reverse 1 rest
  | _ => false)
/-- what must be known of the __init__ -/
def IniOk (P : Program) (K : PySem.W.Frag) (C : Addr) (fl : List Str) (i : Ini) : Prop := ∃ (f cda cc : Addr) (qual : Str) (fd : FuncData), XiC P K C f cda cc qual (defArgs i.st) (defBody i.st) (defScope i.st) fd ∧ Binds K fd i.ps [] ∧
  PySem.W.findIn K (.ref C) "__init__" = some (some (.ref f)) ∧ PySem.W.typeIn K (.ref f) = some (.type "function") ∧ iniB i fl = true
theorem xi_ok {P : Program} {w : World} {K : PySem.W.Frag} {mg : Str → Option Value} {base : Heap} {C f cda cc : Addr} {qual : Str} {fd : FuncData} {i : Ini} {fl : List Str} {k : Nat} (F : XiC P K C f cda cc qual (defArgs i.st) (defBody i.st) (defScope i.st) fd) (hb : iniB i fl = true) (hstr : mg "str" = none)
    (hne : fl ≠ []) (hle : fl.length ≤ 900) (hfl : ∀ f ∈ fl, PySem.W.findIn K (.ref C) f = some none) : FnOk P w K mg base CXn (k + 1) f fd i.ps (spI C fl.reverse i.mg) := by
  unfold iniB at hb
  simp only [Bool.and_eq_true, decide_eq_true_eq] at hb
  obtain ⟨⟨⟨⟨hsc, hself⟩, hln⟩, hN⟩, hbd⟩ := hb
  have S := xiSc_ok hsc
  split at hbd
  · rename_i z p0 p1 m p2 e p3 p4 rest hbody
    simp only [Bool.and_eq_true, decide_eq_true_eq] at hbd
    obtain ⟨⟨⟨⟨hline, rfl⟩, rfl⟩, hg⟩, has⟩ := hbd
    rw [hbody] at F
    obtain ⟨pl, hpl⟩ := xi_eq hg p0 p1 p2 p3 hline
    have hlen : ∀ vs H Q E, spI C fl.reverse i.mg vs H Q E → vs.length = i.ps.length := fun vs H Q E sp => by
      obtain ⟨a, ws, ds, rfl, hl, _⟩ := sp
      rw [List.length_cons, hl, List.length_reverse, hln]
    refine xi_fn F S hself hlen (star_g hg) pl hpl fun A outer s H vs Q E hr sp => ?_
    have hvl := hlen _ _ _ _ sp
    obtain ⟨a, ws, ds, rfl, hl, hHa, sv, em, q⟩ := sp
    have hst : L2.start i.N (.ref a :: ws) = (V.ref a :: ws).map some := by
      unfold L2.start
      rw [show i.N.length - (V.ref a :: ws).length = 0 by omega]
      simp
    refine ⟨a, _, _, rfl, hHa, pe_mg (N := i.N) rfl rfl hstr i.mg e hg, pss_as (N := i.N) rfl rfl fl.reverse 1 rest has, ?_⟩
    obtain ⟨t, ht⟩ := Option.isSome_iff_exists.mp em
    refine ⟨ds, t, fun j => ⟨fun k e => ?_, fun z e => ?_⟩, ht, rfl, ?_⟩
    · rw [hst, List.map_cons, List.getElem?_cons_succ, List.getElem?_map, (sv j).1 k e]
      rfl
    · rw [hst, List.map_cons, List.getElem?_cons_succ, List.getElem?_map, (sv j).2 z e]
      rfl
    · obtain ⟨f0, fs, hfs⟩ : ∃ f0 fs, fl.reverse = f0 :: fs := by
        cases e : fl.reverse with
        | nil => exact absurd (List.reverse_eq_nil_iff.mp e) hne
        | cons f0 fs => exact ⟨f0, fs, rfl⟩
      have hfl2 : ∀ f ∈ f0 :: fs, PySem.W.findIn K (.ref C) f = some none := fun f hf => hfl f (List.mem_reverse.mp (hfs ▸ hf))
      have hle2 : (f0 :: fs).length ≤ 900 := by rw [← hfs, List.length_reverse]; exact hle
      rw [hfs] at q hl ⊢
      cases ws with
      | nil => simp at hl
      | cons w0 ws =>
        have s0 : (L2.start i.N (.ref a :: w0 :: ws))[0]? = some (some (V.ref a)) := by rw [hst]; rfl
        have s1 : (L2.start i.N (.ref a :: w0 :: ws))[1]? = some (some w0) := by rw [hst]; rfl
        refine ⟨w0, s1, .ref a, s0, a, C, rfl, F.oex, hfl2 f0 List.mem_cons_self, .inl ⟨hHa, fun dx hdx hda => ?_⟩⟩
        simp only [List.length_cons] at hle2 hl
        refine as_old F.oex s0 hda fs 2 ws _ [(f0, w0)] (by omega) (by simp only [List.length_cons, List.length_nil]; omega) (fun f hf => hfl2 f (List.mem_cons_of_mem _ hf)) (fun i v e => by rw [hst, show 2 + i = i + 1 + 1 by omega, List.map_cons, List.map_cons, List.getElem?_cons_succ, List.getElem?_cons_succ, List.getElem?_map, e]; rfl) upd_same (by rw [upd_ne hda, upd_same]) ?_
        refine q dx _ hda hdx (by rw [upd_ne (Ne.symm hda), upd_same]) (by rw [upd_same]; simp) fun b h1 h2 => by rw [upd_ne h2, upd_ne h1, upd_ne h2]
  · cases hbd
end Ev

/-! EvH: an expression's value is what the layer's reading asks (sndE). -/
namespace Ev
open PySem PySem.Spec L2
variable [Wd]

/-- what a def promises: as callN says -/
def spF (K : PySem.W.Frag) (xr : XRel) (T : List FD) (n f : Nat) : Sp := fun vs H Q E => ∃ fd, T[f]? = some fd ∧ vs.length = fd.np ∧ ∃ (B : List Nat) (b : Nat) (m : List Addr) (F : Hp) (ws : List W) (h : Hq), b ∈ B ∧ (∀ c ∈ B, c ≤ b) ∧ HR K B m F h H ∧ WRs K m F vs ws ∧
  match callN T n b f ws h with
  | .ok w h' => ∀ v m' F' H', Ext m F H m' F' H' → HR K B m' F' h' H' → WR K m' F' v w → Q v H'
  | .ex c ds h' => ∀ m' F' H' cls dx, Ext m F H m' F' H' → HR K B m' F' h' H' → xr c ds cls dx F' H' → E cls dx H'
  | .bad => False

def bnames : List Str := ["len", "tuple", "int", "sum", "max", "min", "all", "any", "sorted", "list", "repr", "str", "range", "set", "isinstance", "zip", "dict", "bool"]
/-- the class that a name of an own one stands for -/
abbrev cA (K : PySem.W.Frag) (d : CDef) : Addr := He.ga K d.nm
def cV (K : PySem.W.Frag) (d : CDef) : Value := if d.own then .ref (cA K d) else .type "ValueError"
/-- what must be known of the classes of exceptions -/
structure ClsOk (P : Program) (K : PySem.W.Frag) (mg : Str → Option Value) (cl : List CDef) (c : Nat) (d : CDef) : Prop where
  gC : mg d.nm = some (.ref (cA K d))
  kC : PySem.W.keepIn K (.ref (cA K d)) = true
  xC : d.fl = [] → PySem.W.excIn K (cA K d) He.veBase "ValueError.__new__" = true
  sC : PySem.W.subIn K (.ref (cA K d)) (.type "BaseException") = some true
  tC : PySem.W.typeIn K (.ref (cA K d)) = some (.type "type")
  iC : L2.ExcC K (cA K d)
  fN : d.fl.Nodup
  fF : ∀ f ∈ d.fl, PySem.W.findIn K (.ref (cA K d)) f = some none
  exm : ∀ (j : Nat) (e : CDef), cl[j]? = some e → e.own = true → PySem.W.exmOne K (.ref (cA K d)) (.ref (cA K e)) = some (e.subs.contains c)
  kit : ∀ (j : Nat) (e : CDef), cl[j]? = some e → PySem.W.kitOne K (.ref (cA K d)) (cV K e) = some (e.subs.contains c)
  ini : ∀ i, d.ini = some i → IniOk P K (cA K d) d.fl i
/-- what is told of an exception -/
def xrC (K : PySem.W.Frag) (cl : List CDef) : XRel := fun c ds cls dx F _ => ∃ d, cl[c]? = some d ∧ d.own = true ∧ cls = .ref (cA K d) ∧ ds.length = d.fl.length ∧
  ((d.fl = [] ∧ dx = none) ∨ ∃ (a : Addr) (vs : List V), dx = some a ∧ F a = some (.xd (d.fl.zip vs)) ∧ DpAll K F vs ds)
theorem xrC_mono {K : PySem.W.Frag} {cl : List CDef} {c : Nat} {ds : List PyData} {cls : Value} {dx : Option Addr} {F F' H H' : Hp} (le : HpLe F F') (h : xrC K cl c ds cls dx F H) : xrC K cl c ds cls dx F' H' := by
  obtain ⟨d, h1, h2, h3, h4, h5⟩ := h
  refine ⟨d, h1, h2, h3, h4, h5.imp id ?_⟩
  rintro ⟨a, vs, e1, e2, e3⟩
  exact ⟨a, vs, e1, le _ _ e2, dps_mono le _ _ e3⟩
/-- the exception that a suite holds -/
def ExOk (X : Cx) (cl : List CDef) (e : ExI) : Prop := ∃ (X0 : Cx) (oe : Obj) (pn : List (Addr × Obj)) (cls : Value) (dx : Option Addr), X = X0.suite e.a ((e.a, oe) :: pn) ∧ Zc cls dx oe ∧ (∃ vs, oe.data = .fields vs) ∧ ∀ F, e.R F → xrC X.K cl e.n e.ds cls dx F F
/-- what must be known of the classes of objects -/
structure OclS (K : PySem.W.Frag) (mg : Str → Option Value) (c : Nat) (d : OCl) : Prop where
  ca : Wd.ca c = He.ga K d.nm
  gC : mg d.nm = some (.ref (He.ga K d.nm))
  cls : Cls K (He.ga K d.nm)
  noat : ∀ f ∈ d.fl, NoAttr K (He.ga K d.nm) f
  meth : ∀ m f, (m, f) ∈ d.ms → Meth K (He.ga K d.nm) m (He.ma K (He.ga K d.nm) m)
  mkr : ∀ f, d.ini = some f → Mk K (He.ga K d.nm) (He.ma K (He.ga K d.nm) "__init__")
/-- the def f of the class d -/
def isMeth (d : OCl) (m : Str) (f : Nat) : Prop := (m, f) ∈ d.ms ∨ (m = "__init__" ∧ d.ini = some f)
/-- a tuple of texts that stands at the program's top -/
def TupK (K : PySem.W.Frag) (a : Addr) (zs : List Str) : Prop := ∃ (o : Obj) (its : Array Value) (n : Nat), K.lookup a = some o ∧ o.cls = .type "tuple" ∧ o.data = .seq its n ∧ its.size ≤ sizeLine ∧ Vals (zs.map V.str) its.toList
/-- what must be known where a term is read -/
structure XOk (X : Cx) (Wx : WX) (M : ME) (xr : XRel) (T : List FD) (n : Nat) (B : BB) (sc : Scope) : Prop where
  calm : X.calm = M.cm
  nd : X.N.Nodup
  hN : X.N = M.N
  hs : X.env.scope = sc
  tk : Takes X Wx
  hu : X.A.units + 200 < cLine
  hw : X.w = Wd.w
  gd : X.A.guards = some []
  room : M.cm = true → Room (2 * n + 3) X.A
  bl : ∀ x ∈ bnames, X.mg x = none
  gls : ∀ x i, (x, i) ∈ M.gi → ∃ t, X.mg x = some (.int i t)
  glz : ∀ x z, (x, z) ∈ M.gs → ∃ t, X.mg x = some (.str z t)
  glt : ∀ x z, (x, z) ∈ M.gt → ∃ a, X.mg x = some (.ref a) ∧ TupK X.K a z
  fns : ∀ f x, M.fn[f]? = some (some x) → ∃ a fd ps, X.mg x = some (.ref a) ∧ PySem.W.keepIn X.K (.ref a) = true ∧ Binds X.K fd ps [] ∧ FnG X.prog X.w X.K X.mg X.base (L2.CX X.prog X.w) (2 * n + 2) a fd ps (spF X.K xr T n f)
  ocs : ∀ (c : Nat) (d : OCl), M.ocl[c]? = some d → OclS X.K X.mg c d
  mfn : ∀ (c : Nat) (d : OCl) (m : Str) (f : Nat), M.ocl[c]? = some d → isMeth d m f → ∃ fd ps, Binds X.K fd ps [] ∧ FnG X.prog X.w X.K X.mg X.base (L2.CX X.prog X.w) (2 * n + 2) (He.ma X.K (He.ga X.K d.nm) m) fd ps (spF X.K xr T n f)
  xrE : xr = xrC X.K M.cls
  cls : ∀ c d, M.cls[c]? = some d → d.own = true → ClsOk X.prog X.K X.mg M.cls c d
  bcl : ∀ d ∈ M.cls, d.own = false → X.mg d.nm = none ∧ d.nm = "ValueError"
  xs : M.xs = B.ex.map (·.i)
  exn : M.cm = true → M.xs = none
  ex : ∀ e, B.ex = some e → ExOk X M.cls e
theorem XOk.noex {X : Cx} {Wx : WX} {M : ME} {xr : XRel} {T : List FD} {n : Nat} {B : BB} {sc : Scope} (k : XOk X Wx M xr T n B sc) (h : M.cm = true) : B.ex = none := by
  have e := k.xs
  rw [k.exn h] at e
  cases q : B.ex with
  | none => rfl
  | some _ => rw [q] at e; cases e
theorem XOk.clm {X : Cx} {Wx : WX} {M : ME} {xr : XRel} {T : List FD} {n : Nat} {B : BB} {sc : Scope} (k : XOk X Wx M xr T n B sc) (h : M.cm = true) : X.calm = true := k.calm.trans h

structure SE (X : Cx) (xr : XRel) (B : BB) (Wx : WX) (r : Vars → Hq → R W) (p : Expr) : Prop where
  pe : PE X p (tE X.K xr B Wx r)
  pt : notIf p = true → PT X p (tT X.K xr B Wx r)
  pw : isBO p = true → PW X p (tT X.K xr B Wx r)

theorem gl_of {X : Cx} {sc : Scope} {x : Str} (hs : X.env.scope = sc) (h : isGl sc x = true) : Gl X x := by
  unfold Gl Env.kindOf
  rw [hs]
  exact of_decide_eq_true h
theorem vis_of {sc : Scope} {x : Str} (h : isVis sc x = true) : Vis sc x := by
  unfold isVis at h
  split at h
  · exact .inl (by assumption)
  · exact .inr (.inl (by assumption))
  · exact .inr (.inr (by assumption))
  · cases h
theorem sto_of {sc : Scope} {x : Str} (h : isSto sc x = true) : Loc sc x := by
  unfold isSto at h
  split at h
  · exact .inl (by assumption)
  · exact .inr (by assumption)
  · cases h
theorem plainN_of {x : Str} (h : plainN x = true) : (x == ("__debug__" : Str)) = false ∧ (x == ("__classdict__" : Str)) = false ∧ x ≠ "__name__" := by
  unfold plainN at h
  simp only [Bool.and_eq_true, decide_eq_true_eq] at h
  exact ⟨beq_eq_false_iff_ne.mpr h.1.1, beq_eq_false_iff_ne.mpr h.1.2, h.2⟩

section
variable {X : Cx} {xr : XRel} {B : BB} {Wx : WX}
theorem star1 {p : Expr} {ps : List Expr} {env : Env} (h : notStar p = true) : starEach (p :: ps) env = (false, eval p env) :: starEach ps env := by
  cases p <;> first | rfl | (simp [notStar] at h)
theorem stars_of {M : ME} {sc : Scope} {env : Env} : ∀ {es : Es} {ps : List Expr}, matEs M sc es ps = true → ∀ pos, (backTo pos (starEach ps env)).any (·.1) = false ∧ (backTo pos (starEach ps env)).all (fun x => !x.1) = true
  | .nil, [], _, pos => ⟨rfl, rfl⟩
  | .nil, _ :: _, h, _ => by simp [matEs] at h
  | .cons _ _, [], h, _ => by simp [matEs] at h
  | .cons e es, p :: ps, h, pos => by
    simp only [matEs, Bool.and_eq_true] at h
    rw [star1 h.1.1]
    have ih := stars_of (env := env) h.2 pos
    unfold backTo at ih ⊢
    simp only [List.map_cons, List.any_cons, List.all_cons, Bool.false_or, Bool.not_false, Bool.true_and]
    exact ih
theorem star_head {M : ME} {sc : Scope} {es : Es} {p : Expr} {ps : List Expr} (h : matEs M sc es (p :: ps) = true) : notStar p = true := by
  cases es with
  | nil => simp [matEs] at h
  | cons e es => simp only [matEs, Bool.and_eq_true] at h; exact h.1.1

/-- two values, one operator -/
theorem tOp_read {ra rb : Vars → Hq → R W} {f : W → W → Hq → R W} (σ : L2.St) (H : Hp) (Q : VK) (p : tE X.K xr B Wx (fun env h => (ra env h).bind fun v h => (rb env h).bind fun w h => f v w h) σ H Q) :
    tOp (rOp X.K xr B Wx f) (tE X.K xr B Wx ra) (tE X.K xr B Wx rb) σ H Q := by
  obtain ⟨m, F, env, h, S, p⟩ := p
  refine ⟨m, F, env, h, S, p.bind.mono fun w1 h1 m1 F1 H1 x1 S1 p x r1 => ⟨m1, F1, env, h1, S1, p.bind.mono fun w2 h2 m2 F2 H2 x2 S2 p y r2 => ?_⟩⟩
  exact ⟨m2, F2, env, h2, σ, w1, w2, S2, wr_mono x2.ml x2.sub r1, r2, p⟩
theorem SE.of_plain {r : Vars → Hq → R W} {p : Expr} (h : PE X p (tE X.K xr B Wx r)) (he : ∀ whole, isTrue p X.env whole = (do let v ← whole; standAt p.pos; holding [v] (truthy v))) (hb : isBO p = false) : SE X xr B Wx r p := by
  refine ⟨h, fun _ => (pt_val h he).weak fun σ H Q q => ?_, fun z => by rw [hb] at z; cases z⟩
  obtain ⟨m, F, env, h, S, q⟩ := q
  refine ⟨m, F, env, h, S, q.mono fun w h1 m1 F1 H1 x1 S1 q v rv => ?_⟩
  obtain ⟨k, rfl, q⟩ := q
  have rv : Dp X.K F1 v (.bool k) := rv
  cases rv
  exact ⟨k, rfl, q⟩
theorem tB_of {r : Vars → Hq → R W} (σ : L2.St) (H : Hp) (Q : Bool → Hp → Prop) (q : tT X.K xr B Wx r σ H Q) : tB (tE X.K xr B Wx r) σ H Q := by
  obtain ⟨m, F, env, h, S, q⟩ := q
  refine ⟨m, F, env, h, S, q.mono fun w h1 m1 F1 H1 x1 S1 q v rv => ?_⟩
  obtain ⟨k, rfl, q⟩ := q
  have rv : Dp X.K F1 v (.bool k) := rv
  cases rv
  exact ⟨k, rfl, q⟩
theorem tTest_weak {t t' : TE} (i : ∀ σ H Q, t' σ H Q → t σ H Q) (σ : L2.St) (H : Hp) (Q : Bool → Hp → Prop) (q : tB t' σ H Q) : tTest t σ H Q := i _ _ _ q
end

section
variable {M : ME} {xr : XRel} {T : List FD} {n b : Nat} {B : BB}

theorem bt_gl {X : Cx} {Wx : WX} {sc : Scope} {f : Bt} (k : XOk X Wx M xr T n B sc) : X.mg f.nm = none := k.bl _ (by cases f <;> decide +kernel)

/-- a term that stands for the text's piece -/
def SndE (M : ME) (xr : XRel) (T : List FD) (n b : Nat) (B : BB) (e : E) : Prop := ∀ (X : Cx) (Wx : WX) (sc : Scope) (p : Expr), XOk X Wx M xr T n B sc → matE M sc e p = true → SE X xr B Wx (evE b (callN T n) e) p
def SndEs (M : ME) (xr : XRel) (T : List FD) (n b : Nat) (B : BB) (es : Es) : Prop := ∀ (X : Cx) (Wx : WX) (sc : Scope) (ps : List Expr), XOk X Wx M xr T n B sc → matEs M sc es ps = true → PA X ps (tA X.K xr B Wx (evEs b (callN T n) es))

theorem snd_var (i : Nat) : SndE M xr T n b B (.var i) := by
  intro X Wx sc p k h
  cases p <;> simp only [matE, Bool.false_eq_true] at h
  rename_i x pos
  simp only [Bool.and_eq_true] at h
  obtain ⟨⟨⟨h1, h2⟩, h3⟩, hxs⟩ := h
  have hxs := of_decide_eq_true hxs
  obtain ⟨h4, h5, _⟩ := plainN_of h3
  refine SE.of_plain ((pe_var (i := i) (by rw [k.hN]; exact of_decide_eq_true h1) (by rw [k.hs]; exact vis_of h2) h4 h5).weak fun σ H Q q => ?_) (fun _ => rfl) rfl
  obtain ⟨m, F, env, hq, S, q⟩ := q
  simp only [evE] at q
  split at q
  · rename_i w e
    obtain ⟨v, ev, rv⟩ := S.var i w (fun y hy z => hxs (by rw [k.xs, hy, z]; rfl)) e
    exact ⟨v, ev, PostE.now q S rv⟩
  · exact q.elim
theorem snd_lit (c : PyData) : SndE M xr T n b B (.lit c) := by
  intro X Wx sc p k h
  cases p <;> simp only [matE, Bool.false_eq_true] at h
  rename_i cc j pos
  have nw : ∀ {σ H Q} {v : V}, (∀ F, Dp X.K F v c) → tE X.K xr B Wx (evE b (callN T n) (.lit c)) σ H Q → Q v H := fun {σ H Q v} d q => by
    obtain ⟨m, F, env, hq, S, q⟩ := q
    exact PostE.now q S (d F)
  cases c <;> cases cc <;> simp only [matC, Bool.false_eq_true, decide_eq_true_eq] at h
  case none.none => exact SE.of_plain (pe_non.weak fun σ H Q q => nw (fun _ => .non) q) (fun _ => rfl) rfl
  case bool.bool => subst h; exact SE.of_plain (pe_bl.weak fun σ H Q q => nw (fun _ => .bl _) q) (fun _ => rfl) rfl
  case int.int => subst h; exact SE.of_plain (pe_int.weak fun σ H Q q => nw (fun _ => .int _) q) (fun _ => rfl) rfl
  case str.str => subst h; exact SE.of_plain (pe_str.weak fun σ H Q q => nw (fun _ => .str _) q) (fun _ => rfl) rfl

theorem snd_nil : SndEs M xr T n b B .nil := by
  intro X Wx sc ps k h
  cases ps with
  | cons _ _ => simp [matEs] at h
  | nil =>
    refine PA.weak pa_nil fun σ H Q q => ?_
    obtain ⟨m, F, env, hq, S, q⟩ := q
    exact q m F H (.refl ..) S [] .nil
theorem snd_cons {e : E} {es : Es} (he : SndE M xr T n b B e) (hes : SndEs M xr T n b B es) : SndEs M xr T n b B (.cons e es) := by
  intro X Wx sc ps k h
  cases ps with
  | nil => simp [matEs] at h
  | cons p ps =>
    simp only [matEs, Bool.and_eq_true] at h
    refine PA.weak (pa_cons (he X Wx sc p k h.1.2).pe (hes X Wx sc ps k h.2) (star1 h.1.1)) fun σ H Q q => ?_
    obtain ⟨m, F, env, hq, S, q⟩ := q
    refine ⟨m, F, env, hq, S, (PostG.bind q).mono fun w h1 m1 F1 H1 x1 S1 q x r1 => ⟨m1, F1, env, h1, S1, q.bind.mono fun ws h2 m2 F2 H2 x2 S2 q xs r2 => ?_⟩⟩
    exact q m2 F2 H2 (.refl ..) S2 _ (.cons (wr_mono x2.ml x2.sub r1) r2)
theorem ev_len : ∀ (C : CallF) (es : Es) {env : Vars} {h h' : Hq} {ws : List W}, evEs b C es env h = .ok ws h' → ws.length = es.len
  | _, .nil, _, _, _, _, e => by simp only [evEs, R.ok.injEq] at e; rw [← e.1]; rfl
  | C, .cons e es, env, h, h', ws, q => by
    simp only [evEs] at q
    cases h1 : evE b C e env h with
    | ok w h1' =>
      rw [h1] at q
      simp only [R.bind] at q
      cases h2 : evEs b C es env h1' with
      | ok ws2 h2' =>
        rw [h2] at q
        simp only [R.ok.injEq] at q
        rw [← q.1, List.length_cons, ev_len C es h2]
        rfl
      | ex _ _ _ => rw [h2] at q; simp at q
      | bad => rw [h2] at q; simp at q
    | ex _ _ _ => rw [h1] at q; simp [R.bind] at q
    | bad => rw [h1] at q; simp [R.bind] at q
/-- a display: its items, then the new thing -/
theorem disp {X : Cx} {Wx : WX} {es : Es} {g : List W → Hq → R W} {σ : L2.St} {H : Hp} {Q : VK} {G : List V → Hp → Prop} (q : tE X.K xr B Wx (fun env h => (evEs b (callN T n) es env h).bind g) σ H Q) (hl : es.len ≤ 10000)
    (fin : ∀ m F env h H ws vs, SR X.K B m F env h σ H → WRs X.K m F vs ws → ws.length ≤ sizeLine → PostE X.K xr B Wx m F env σ H (g ws h) Q → G vs H) : tA X.K xr B Wx (evEs b (callN T n) es) σ H (fun vs H1 => vs.length ≤ sizeLine ∧ G vs H1) := by
  obtain ⟨m, F, env, hq, S, q⟩ := q
  refine ⟨m, F, env, hq, S, ?_⟩
  have q' := q.bind
  have small : ∀ k : Nat, k ≤ 10000 → k ≤ sizeLine := fun k hk => by rw [PySem.sizeLine_eq]; omega
  cases e : evEs b (callN T n) es env hq with
  | ok ws h1 =>
    have len := ev_len _ _ e
    rw [e] at q'
    intro m1 F1 H1 x1 S1 vs rv
    have hw : ws.length ≤ sizeLine := small _ (by omega)
    exact ⟨by rw [rv.length]; exact hw, fin m1 F1 env h1 H1 ws vs S1 rv hw (q' m1 F1 H1 x1 S1)⟩
  | ex c ds h1 => rw [e] at q'; exact q'
  | bad => rw [e] at q'; exact q'
theorem snd_tup {es : Es} (hes : SndEs M xr T n b B es) : SndE M xr T n b B (.tup es) := by
  intro X Wx sc p k h
  cases p <;> simp only [matE, Bool.false_eq_true, Bool.and_eq_true, decide_eq_true_eq] at h
  refine SE.of_plain ((pe_tup (hes X Wx sc _ k h.1)).weak fun σ H Q q => ?_) (fun _ => rfl) rfl
  refine disp (by simpa only [tE, evE] using q) h.2 fun m F env hq H ws vs S rv hl q p hp => ?_
  split at q
  · rename_i ds e
    exact PostE.newF q S hp (dp_newT S.hr hp (rv.toD e))
  · exact q.elim
theorem snd_lst {es : Es} (hes : SndEs M xr T n b B es) : SndE M xr T n b B (.lst es) := by
  intro X Wx sc p k h
  cases p <;> simp only [matE, Bool.false_eq_true, Bool.and_eq_true, decide_eq_true_eq] at h
  refine SE.of_plain ((pe_lst (hes X Wx sc _ k h.1)).weak fun σ H Q q => ?_) (fun _ => rfl) rfl
  refine disp (by simpa only [tE, evE] using q) h.2 fun m F env hq H ws vs S rv hl q p hp => ?_
  split at q
  · rename_i ds e
    exact PostE.newF q S hp (dp_newL S.hr hp (rv.toD e))
  · exact q.elim
theorem snd_lstM {es : Es} (hes : SndEs M xr T n b B es) : SndE M xr T n b B (.lstM es) := by
  intro X Wx sc p k h
  cases p <;> simp only [matE, Bool.false_eq_true, Bool.and_eq_true, decide_eq_true_eq] at h
  refine SE.of_plain ((pe_lst (hes X Wx sc _ k h.1)).weak fun σ H Q q => ?_) (fun _ => rfl) rfl
  refine disp (by simpa only [tE, evE] using q) h.2 fun m F env hq H ws vs S rv hl q p hp => ?_
  split at q
  · rename_i ds e
    exact PostE.newL (o := .lst ds) q S hp ⟨S.hr.freeF hp, vs, upd_same, rv.toD e⟩
  · exact q.elim
theorem snd_lsw {es : Es} (hes : SndEs M xr T n b B es) : SndE M xr T n b B (.lsw es) := by
  intro X Wx sc p k h
  cases p <;> simp only [matE, Bool.false_eq_true, Bool.and_eq_true, decide_eq_true_eq] at h
  refine SE.of_plain ((pe_lst (hes X Wx sc _ k h.1)).weak fun σ H Q q => ?_) (fun _ => rfl) rfl
  refine disp (by simpa only [tE, evE] using q) h.2 fun m F env hq H ws vs S rv hl q p hp => ?_
  exact PostE.newL (o := .lsw ws) q S hp ⟨S.hr.freeF hp, vs, upd_same, wrs_mono ⟨[p], rfl⟩ (.refl _) rv⟩
theorem snd_bin {o : Operator} {x y : E} (hx : SndE M xr T n b B x) (hy : SndE M xr T n b B y) : SndE M xr T n b B (.bin o x y) := by
  intro X Wx sc p k h
  cases p <;> simp only [matE, Bool.false_eq_true, Bool.and_eq_true, decide_eq_true_eq] at h
  obtain ⟨⟨rfl, h1⟩, h2⟩ := h
  refine SE.of_plain ((pe_op (op_bin o) (hx X Wx sc _ k h1).pe (hy X Wx sc _ k h2).pe).weak fun σ H Q q => tOp_read σ H Q (by simpa only [tE, evE] using q)) (fun _ => rfl) rfl
theorem opM_cases {K : PySem.W.Frag} {Wx : WX} {f : PyData → PyData → Option PyData} {v w : W} {h : Hq} {m : List Addr} {F H : Hp} {env : Vars} {σ : L2.St} {Q : VK} (p : PostE K xr B Wx m F env σ H (opM f v w h) Q) :
    ∃ d e xs, toD h v = some d ∧ toD h w = some e ∧ f d e = some (.list xs) ∧ PostE K xr B Wx m F env σ H (.ok (.l h.length) (h ++ [.lst xs])) Q := by
  unfold opM at p
  split at p
  · rename_i d e h1 h2
    split at p
    · rename_i xs h3
      exact ⟨d, e, xs, h1, h2, h3, p⟩
    · exact p.elim
  · exact p.elim
theorem op_binM {X : Cx} {Wx : WX} (o : Operator) : OpR X (binaryOp o) (rOp X.K xr B Wx (opM (evBin o))) := by
  intro pins s σ H x y v u Q I rx ry hq
  obtain ⟨m, F, env, h, σ', w1, w2, S, r1, r2, p⟩ := hq
  obtain ⟨d, e, r, t1, t2, ev, p⟩ := opM_cases p
  have n1 := now_of S.hr r1 t1
  have n2 := now_of S.hr r2 t2
  have szE := sz_eq
  cases o <;> cases d <;> cases e <;> simp only [evBin, reduceCtorEq] at ev <;> first | (cases ev; done) | (split at ev <;> cases ev; done) | skip
  case Add.list.list i j =>
    split at ev
    · cases ev
      obtain ⟨a, vs, rfl, s1, d1⟩ := n1.list S.hr.sub
      obtain ⟨b, us, rfl, s2, d2⟩ := n2.list S.hr.sub
      have l1 := d1.length
      have l2 := d2.length
      exact op_catL pins s σ H _ _ v u Q I rx ry ⟨a, b, vs, us, rfl, rfl, s1, s2, by omega, fun q hq => PostE.newL (o := .lst (i ++ j)) p S hq ⟨S.hr.freeF hq, vs ++ us, upd_same, d1.app d2⟩⟩
    · cases ev
  case Mult.list.int i j =>
    split at ev
    · rename_i hc
      cases n2.int; cases ev
      obtain ⟨a, vs, rfl, s1, d1⟩ := n1.list S.hr.sub
      have hc := repOk_ok hc
      have l1 := d1.length
      exact op_repL pins s σ H _ _ v u Q I rx ry ⟨a, j, vs, rfl, rfl, s1, by omega, by omega, by rw [l1]; omega, fun q hq => PostE.newL (o := .lst (repL i j)) p S hq ⟨S.hr.freeF hq, _, upd_same, d1.rep _⟩⟩
    · cases ev
theorem snd_binM {o : Operator} {x y : E} (hx : SndE M xr T n b B x) (hy : SndE M xr T n b B y) : SndE M xr T n b B (.binM o x y) := by
  intro X Wx sc p k h
  cases p <;> simp only [matE, Bool.false_eq_true, Bool.and_eq_true, decide_eq_true_eq] at h
  obtain ⟨⟨rfl, h1⟩, h2⟩ := h
  refine SE.of_plain ((pe_op (op_binM o) (hx X Wx sc _ k h1).pe (hy X Wx sc _ k h2).pe).weak fun σ H Q q => tOp_read σ H Q (by simpa only [tE, evE] using q)) (fun _ => rfl) rfl
theorem snd_cmp {o : CmpOp} {x y : E} (hx : SndE M xr T n b B x) (hy : SndE M xr T n b B y) : SndE M xr T n b B (.cmp o x y) := by
  intro X Wx sc p k h
  cases p <;> try (simp only [matE, Bool.false_eq_true] at h; done)
  rename_i l ops cs pos
  match ops, cs, h with
  | [o'], [pb], h =>
    simp only [matE, Bool.and_eq_true, decide_eq_true_eq] at h
    obtain ⟨⟨⟨rfl, h0⟩, h1⟩, h2⟩ := h
    have hm : behindInMarks o pb = false := by cases pb <;> first | rfl | (simp [notSet] at h0)
    have a := (hx X Wx sc _ k h1).pe
    have c := (hy X Wx sc _ k h2).pe
    refine ⟨(pe_cmpR (op_cmp k.hw k.hu o) a c hm).weak fun σ H Q q => tOp_read σ H Q (by simpa only [tE, evE] using q), fun _ => (pt_cmpR (op_cmp (xr := xr) (B := B) (Wx := Wx) k.hw k.hu o) a c hm).weak fun σ H Q q => ?_, fun z => by cases z⟩
    exact tTest_weak (t' := tE X.K xr B Wx (evE b (callN T n) (.cmp o x y))) (fun σ H Q q => tOp_read σ H Q (by simpa only [tE, evE] using q)) σ H Q (tB_of σ H Q q)
  | [], _, h => simp [matE] at h
  | [_], [], h => simp [matE] at h
  | [_], _ :: _ :: _, h => simp [matE] at h
  | _ :: _ :: _, _, h => simp [matE] at h
end
end Ev

/-! EvI: the rest of the expressions; all of them (sndE). -/
namespace Ev
open PySem PySem.Spec L2
variable [Wd]
section
variable {M : ME} {xr : XRel} {T : List FD} {n b : Nat} {B : BB}

theorem bind1 {K : PySem.W.Frag} {Wx : WX} {ra : Vars → Hq → R W} {g : Vars → W → Hq → R W} {σ : L2.St} {H : Hp} {Q : VK} {Q' : VK} (p : tE K xr B Wx (fun env h => (ra env h).bind (g env)) σ H Q)
    (i : ∀ m F env h H w v, SR K B m F env h σ H → WR K m F v w → PostE K xr B Wx m F env σ H (g env w h) Q → Q' v H) : tE K xr B Wx ra σ H Q' := by
  obtain ⟨m, F, env, h, S, p⟩ := p
  exact ⟨m, F, env, h, S, p.bind.mono fun w h1 m1 F1 H1 x1 S1 p v rv => i m1 F1 env h1 H1 w v S1 rv p⟩

theorem snd_neg {x : E} (hx : SndE M xr T n b B x) : SndE M xr T n b B (.neg x) := by
  intro X Wx sc p k h
  cases p <;> try (simp only [matE, Bool.false_eq_true] at h; done)
  rename_i o pa pos
  cases o <;> simp only [matE, Bool.false_eq_true] at h
  refine SE.of_plain ((pe_un un_neg (hx X Wx sc _ k h).pe).weak fun σ H Q q => ?_) (fun _ => rfl) rfl
  simp only [tE, evE] at q
  refine bind1 (ra := evE b (callN T n) x) q fun m F env hq H w v S r q => ?_
  split at q
  · rename_i i
    have r : Dp X.K F v (.int i) := r
    cases r
    exact ⟨i, rfl, PostE.now q S (.int _)⟩
  · exact q.elim
theorem tT_of {X : Cx} {Wx : WX} {r : Vars → Hq → R W} {t : TE} {σ : L2.St} {H : Hp} {Q : Bool → Hp → Prop} (i : ∀ σ H Q, tE X.K xr B Wx r σ H Q → t σ H Q) (q : tT X.K xr B Wx r σ H Q) : tB t σ H Q := i σ H _ (tB_of σ H Q q)
theorem snd_nt {x : E} (hx : SndE M xr T n b B x) : SndE M xr T n b B (.nt x) := by
  intro X Wx sc p k h
  cases p <;> try (simp only [matE, Bool.false_eq_true] at h; done)
  rename_i o pa pos
  cases o <;> simp only [matE, Bool.false_eq_true, Bool.and_eq_true] at h
  have a := hx X Wx sc _ k h.1
  refine ⟨(pe_not a.pe).weak fun σ H Q q => ?_, fun _ => (pt_not (a.pt h.2)).weak fun σ H Q q => ?_, fun z => by cases z⟩
  · simp only [tE, evE] at q
    refine bind1 (ra := evE b (callN T n) x) q fun m F env hq H w v S r q => ?_
    split at q
    · rename_i i
      have r : Dp X.K F v (.bool i) := r
      cases r
      exact ⟨i, rfl, PostE.now q S (.bl _)⟩
    · exact q.elim
  · obtain ⟨m, F, env, hq, S, q⟩ := q
    refine ⟨m, F, env, hq, S, (PostG.bind q).mono fun w h1 m1 F1 H1 x1 S1 q => ?_⟩
    split at q
    · rename_i i
      obtain ⟨k, e, q⟩ := q m1 F1 H1 (.refl ..) S1
      cases e
      exact ⟨i, rfl, q⟩
    · exact q.elim
theorem isn_read {X : Cx} {Wx : WX} {x : E} {σ : L2.St} {H : Hp} {Q : VK} (q : tE X.K xr B Wx (evE b (callN T n) (.isN x)) σ H Q) : tIsN (tE X.K xr B Wx (evE b (callN T n) x)) σ H Q := by
  simp only [tE, evE] at q
  refine bind1 (ra := evE b (callN T n) x) q fun m F env hq H w v S r q => ?_
  have fin : ∀ k, decide (v = .non) = k → PostE X.K xr B Wx m F env σ H (.ok (.d (.bool k)) hq) Q → Q (.bl (decide (v = .non))) H := fun k e q => by
    rw [e]; exact PostE.now q S (.bl k)
  cases w with
  | x _ _ => exact r.elim
  | l j =>
    obtain ⟨a, _, rfl⟩ := r
    exact fin false (by simp) q
  | d y =>
    have r : Dp X.K F v y := r
    cases r with
    | non => exact fin true (by decide) q
    | bl _ => exact fin false (by simp) q
    | int _ => exact fin false (by simp) q
    | str _ => exact fin false (by simp) q
    | lst _ _ => exact fin false (by simp) q
    | tup _ _ => exact fin false (by simp) q
theorem notn_read {X : Cx} {Wx : WX} {x : E} {σ : L2.St} {H : Hp} {Q : VK} (q : tE X.K xr B Wx (evE b (callN T n) (.notN x)) σ H Q) : tNotN (tE X.K xr B Wx (evE b (callN T n) x)) σ H Q := by
  simp only [tE, evE] at q
  refine bind1 (ra := evE b (callN T n) x) q fun m F env hq H w v S r q => ?_
  have fin : ∀ k, decide (v = .non) = !k → PostE X.K xr B Wx m F env σ H (.ok (.d (.bool k)) hq) Q → Q (.bl (!decide (v = .non))) H := fun k e q => by
    rw [e, Bool.not_not]; exact PostE.now q S (.bl k)
  cases w with
  | x _ _ => exact r.elim
  | l j =>
    obtain ⟨a, _, rfl⟩ := r
    exact fin true (by simp) q
  | d y =>
    have r : Dp X.K F v y := r
    cases r with
    | non => exact fin false (by simp) q
    | bl _ => exact fin true (by simp) q
    | int _ => exact fin true (by simp) q
    | str _ => exact fin true (by simp) q
    | lst _ _ => exact fin true (by simp) q
    | tup _ _ => exact fin true (by simp) q
theorem snd_isN {x : E} (hx : SndE M xr T n b B x) : SndE M xr T n b B (.isN x) := by
  intro X Wx sc p k h
  cases p <;> try (simp only [matE, Bool.false_eq_true] at h; done)
  rename_i l ops cs pos
  rcases ops with _ | ⟨o, _ | ⟨o2, os⟩⟩ <;> rcases cs with _ | ⟨c, _ | ⟨c2, cs⟩⟩ <;> try (simp [matE] at h; done)
  cases o <;> try (simp [matE] at h; done)
  cases c <;> try (simp [matE] at h; done)
  rename_i c _ _
  cases c <;> try (simp [matE] at h; done)
  simp only [matE] at h
  have a := (hx X Wx sc _ k h).pe
  exact ⟨(pe_cmp (pc_isN a) rfl).weak fun σ H Q q => isn_read q, fun _ => (pt_cmp (pc_isN a) rfl).weak fun σ H Q q => tT_of (fun σ H Q q => isn_read q) q, fun z => by cases z⟩
theorem snd_notN {x : E} (hx : SndE M xr T n b B x) : SndE M xr T n b B (.notN x) := by
  intro X Wx sc p k h
  cases p <;> try (simp only [matE, Bool.false_eq_true] at h; done)
  rename_i l ops cs pos
  rcases ops with _ | ⟨o, _ | ⟨o2, os⟩⟩ <;> rcases cs with _ | ⟨c, _ | ⟨c2, cs⟩⟩ <;> try (simp [matE] at h; done)
  cases o <;> try (simp [matE] at h; done)
  cases c <;> try (simp [matE] at h; done)
  rename_i c _ _
  cases c <;> try (simp [matE] at h; done)
  simp only [matE] at h
  have a := (hx X Wx sc _ k h).pe
  exact ⟨(pe_cmp (pc_notN a) rfl).weak fun σ H Q q => notn_read q, fun _ => (pt_cmp (pc_notN a) rfl).weak fun σ H Q q => tT_of (fun σ H Q q => notn_read q) q, fun z => by cases z⟩

theorem op_isB {X : Cx} (n : Bool) : OpR X (compareOp (if n then .IsNot else .Is)) (fun x y H Q => ∃ c d, x = .bl c ∧ y = .bl d ∧ Q (.bl (xor n (c == d))) H) := by
  intro pins s σ H x y v u Q I rx ry hq
  obtain ⟨c, d, rfl, rfl, q⟩ := hq
  cases rx
  cases ry
  cases n
  · exact PyProof.Rows.is_bool ⟨.bl _, H, I, rfl, by simpa using q⟩
  · exact PyProof.Rows.isnot_bool ⟨.bl _, H, I, rfl, by simpa [bne] using q⟩
theorem isB_read {X : Cx} {Wx : WX} {nn kk : Bool} {x : E} {σ : L2.St} {H : Hp} {Q : VK} (q : tE X.K xr B Wx (evE b (callN T n) (.isB nn kk x)) σ H Q) : tOp (fun x y H Q => ∃ c d, x = .bl c ∧ y = .bl d ∧ Q (.bl (xor nn (c == d))) H) (tE X.K xr B Wx (evE b (callN T n) x)) (tC (.bl kk)) σ H Q := by
  simp only [tE, evE] at q
  refine bind1 (ra := evE b (callN T n) x) q fun m F env hq H w v S r q => ?_
  split at q
  · rename_i j
    have r : Dp X.K F v (.bool j) := r
    cases r
    exact ⟨j, kk, rfl, rfl, PostE.now q S (.bl _)⟩
  · exact q.elim
theorem snd_isB {nn kk : Bool} {x : E} (hx : SndE M xr T n b B x) : SndE M xr T n b B (.isB nn kk x) := by
  intro X Wx sc p k h
  cases p <;> try (simp only [matE, Bool.false_eq_true] at h; done)
  rename_i l ops cs pos
  rcases ops with _ | ⟨o, _ | ⟨o2, os⟩⟩ <;> rcases cs with _ | ⟨c, _ | ⟨c2, cs⟩⟩ <;> try (simp [matE] at h; done)
  cases c <;> try (simp [matE] at h; done)
  rename_i c _ _
  cases c <;> try (simp [matE] at h; done)
  simp only [matE, Bool.and_eq_true, decide_eq_true_eq] at h
  obtain ⟨⟨rfl, rfl⟩, h1⟩ := h
  have a := (hx X Wx sc _ k h1).pe
  have hm : ∀ {j p}, behindInMarks (if nn then CmpOp.IsNot else .Is) (.Constant (.bool kk) j p) = false := by
    intro j p
    cases nn <;> rfl
  exact ⟨(pe_cmpR (op_isB nn) a pe_bl hm).weak fun σ H Q q => isB_read q, fun _ => (pt_cmpR (op_isB nn) a pe_bl hm).weak fun σ H Q q => tT_of (fun σ H Q q => isB_read q) q, fun z => by cases z⟩
theorem chain_read {X : Cx} {Wx : WX} {o o' : CmpOp} {x y z : E} {σ : L2.St} {H : Hp} {Q : VK} (q : tE X.K xr B Wx (evE b (callN T n) (.cmp2 o o' x y z)) σ H Q) :
    tChain (rOp X.K xr B Wx (cmpW o)) (rOp X.K xr B Wx (cmpW o')) (tE X.K xr B Wx (evE b (callN T n) x)) (tE X.K xr B Wx (evE b (callN T n) y)) (tE X.K xr B Wx (evE b (callN T n) z)) σ H Q := by
  obtain ⟨m, F, env, h, S, p⟩ := q
  simp only [evE] at p
  refine ⟨m, F, env, h, S, p.bind.mono fun w1 h1 m1 F1 H1 x1 S1 p x r1 => ⟨m1, F1, env, h1, S1, p.bind.mono fun w2 h2 m2 F2 H2 x2 S2 p y r2 => ?_⟩⟩
  refine ⟨m2, F2, env, h2, σ, w1, w2, S2, wr_mono x2.ml x2.sub r1, r2, p.bind.mono fun w3 h3 m3 F3 H3 x3 S3 p v r3 => ?_⟩
  split at p
  · have r3 : Dp X.K F3 v (.bool true) := r3
    cases r3
    refine ⟨true, rfl, iteT ⟨m3, F3, env, h3, S3, p.bind.mono fun w4 h4 m4 F4 H4 x4 S4 p u r4 => ?_⟩⟩
    exact ⟨m4, F4, env, h4, σ, w2, w4, S4, wr_mono (x3.trans x4).ml (x3.trans x4).sub r2, r4, p⟩
  · have r3 : Dp X.K F3 v (.bool false) := r3
    cases r3
    exact ⟨false, rfl, iteF (PostE.now p S3 (.bl _))⟩
  · exact p.elim
theorem snd_cmp2 {o o' : CmpOp} {x y z : E} (hx : SndE M xr T n b B x) (hy : SndE M xr T n b B y) (hz : SndE M xr T n b B z) : SndE M xr T n b B (.cmp2 o o' x y z) := by
  intro X Wx sc p k h
  cases p <;> try (simp only [matE, Bool.false_eq_true] at h; done)
  rename_i l ops cs pos
  rcases ops with _ | ⟨o1, _ | ⟨o2, _ | ⟨o3, os⟩⟩⟩ <;> rcases cs with _ | ⟨c, _ | ⟨c2, _ | ⟨c3, cs⟩⟩⟩ <;> try (simp [matE] at h; done)
  simp only [matE, Bool.and_eq_true, decide_eq_true_eq] at h
  obtain ⟨⟨⟨⟨⟨⟨rfl, rfl⟩, g1⟩, g2⟩, h1⟩, h2⟩, h3⟩ := h
  have hm : ∀ {o : CmpOp} {c : Expr}, notSet c = true → behindInMarks o c = false := fun {o c} g => by cases c <;> first | rfl | (simp [notSet] at g)
  have a1 := (hx X Wx sc _ k h1).pe
  have a2 := (hy X Wx sc _ k h2).pe
  have a3 := (hz X Wx sc _ k h3).pe
  have mk : ∀ {o : CmpOp} {c : Expr}, notSet c = true → markedBehindIn o c = fun t => t := fun {o c} g => by
    funext t
    unfold markedBehindIn
    rw [hm g]
  refine ⟨(pe_chain (op_cmp (xr := xr) (B := B) (Wx := Wx) k.hw k.hu o) (op_cmp (xr := xr) (B := B) (Wx := Wx) k.hw k.hu o') a1 a2 a3 ?_).weak fun σ H Q q => chain_read q, fun _ => (pt_chain (op_cmp (xr := xr) (B := B) (Wx := Wx) k.hw k.hu o) (op_cmp (xr := xr) (B := B) (Wx := Wx) k.hw k.hu o') a1 a2 a3 ?_).weak fun σ H Q q => ?_, fun z => by cases z⟩
  all_goals first | exact hm g2 | exact tT_of (fun σ H Q q => chain_read q) (by assumption)
theorem snd_one {x : E} (hx : SndE M xr T n b B x) : SndE M xr T n b B (.one x) := by
  intro X Wx sc p k h
  cases p <;> try (simp only [matE, Bool.false_eq_true] at h; done)
  rename_i o ps pos
  rcases ps with _ | ⟨p, _ | ⟨p2, ps⟩⟩ <;> try (simp [matE] at h; done)
  simp only [matE, Bool.and_eq_true] at h
  have a := hx X Wx sc _ k h.1
  have e : ∀ {σ H Q}, tE X.K xr B Wx (evE b (callN T n) (.one x)) σ H Q → tE X.K xr B Wx (evE b (callN T n) x) σ H Q := fun {σ H Q} q => by simpa only [tE, evE] using q
  have e' : ∀ {σ H Q}, tT X.K xr B Wx (evE b (callN T n) (.one x)) σ H Q → tT X.K xr B Wx (evE b (callN T n) x) σ H Q := fun {σ H Q} q => by simpa only [tT, evE] using q
  have w : PW X (.BoolOp o [p] pos) (tT X.K xr B Wx (evE b (callN T n) (.one x))) := by
    cases o
    · exact (pw_and1 (a.pt h.2)).weak fun σ H Q q => e' q
    · exact (pw_or1 (a.pt h.2)).weak fun σ H Q q => e' q
  exact ⟨(pe_one a.pe).weak fun σ H Q q => e q, fun _ => w.pt, fun _ => w⟩
theorem snd_and {x y : E} (hx : SndE M xr T n b B x) (hy : SndE M xr T n b B y) : SndE M xr T n b B (.and x y) := by
  intro X Wx sc p k h
  cases p <;> try (simp only [matE, Bool.false_eq_true] at h; done)
  rename_i o ps pos
  cases o <;> rcases ps with _ | ⟨p, _ | ⟨p2, ps⟩⟩ <;> try (simp [matE] at h; done)
  simp only [matE, Bool.and_eq_true] at h
  have a := hx X Wx sc _ k h.1.1
  have c := hy X Wx sc _ k h.2
  have w : PW X (.BoolOp .And (p :: p2 :: ps) pos) (tT X.K xr B Wx (evE b (callN T n) (.and x y))) := by
    refine (pw_and (a.pt h.1.2) (c.pw rfl)).weak fun σ H Q q => ?_
    obtain ⟨m, F, env, hq, S, q⟩ := q
    simp only [evE] at q
    refine ⟨m, F, env, hq, S, q.bind.mono fun w h1 m1 F1 H1 x1 S1 q => ?_⟩
    split at q
    · exact ⟨true, rfl, iteT ⟨m1, F1, env, h1, S1, q⟩⟩
    · obtain ⟨k, e, q⟩ := q m1 F1 H1 (.refl ..) S1
      cases e
      exact ⟨false, rfl, iteF q⟩
    · exact q.elim
  refine ⟨(pe_and a.pe c.pe).weak fun σ H Q q => ?_, fun _ => w.pt, fun _ => w⟩
  simp only [tE, evE] at q
  refine bind1 (ra := evE b (callN T n) x) q fun m F env hq H w v S r q => ?_
  split at q
  · have r : Dp X.K F v (.bool true) := r
    cases r
    exact ⟨true, rfl, iteT ⟨m, F, env, hq, S, q⟩⟩
  · have r : Dp X.K F v (.bool false) := r
    cases r
    exact ⟨false, rfl, iteF (PostE.now q S (.bl _))⟩
  · exact q.elim
theorem snd_or {x y : E} (hx : SndE M xr T n b B x) (hy : SndE M xr T n b B y) : SndE M xr T n b B (.or x y) := by
  intro X Wx sc p k h
  cases p <;> try (simp only [matE, Bool.false_eq_true] at h; done)
  rename_i o ps pos
  cases o <;> rcases ps with _ | ⟨p, _ | ⟨p2, ps⟩⟩ <;> try (simp [matE] at h; done)
  simp only [matE, Bool.and_eq_true] at h
  have a := hx X Wx sc _ k h.1.1
  have c := hy X Wx sc _ k h.2
  have w : PW X (.BoolOp .Or (p :: p2 :: ps) pos) (tT X.K xr B Wx (evE b (callN T n) (.or x y))) := by
    refine (pw_or (a.pt h.1.2) (c.pw rfl)).weak fun σ H Q q => ?_
    obtain ⟨m, F, env, hq, S, q⟩ := q
    simp only [evE] at q
    refine ⟨m, F, env, hq, S, q.bind.mono fun w h1 m1 F1 H1 x1 S1 q => ?_⟩
    split at q
    · obtain ⟨k, e, q⟩ := q m1 F1 H1 (.refl ..) S1
      cases e
      exact ⟨true, rfl, iteT q⟩
    · exact ⟨false, rfl, iteF ⟨m1, F1, env, h1, S1, q⟩⟩
    · exact q.elim
  refine ⟨(pe_or a.pe c.pe).weak fun σ H Q q => ?_, fun _ => w.pt, fun _ => w⟩
  simp only [tE, evE] at q
  refine bind1 (ra := evE b (callN T n) x) q fun m F env hq H w v S r q => ?_
  split at q
  · have r : Dp X.K F v (.bool true) := r
    cases r
    exact ⟨true, rfl, iteT (PostE.now q S (.bl _))⟩
  · have r : Dp X.K F v (.bool false) := r
    cases r
    exact ⟨false, rfl, iteF ⟨m, F, env, hq, S, q⟩⟩
  · exact q.elim
/-- a test, then one of two -/
theorem bindT1 {K : PySem.W.Frag} {Wx : WX} {ra : Vars → Hq → R W} {r1 r2 : Vars → Hq → R W} {σ : L2.St} {H : Hp} {Q : VK} (p : tE K xr B Wx (fun env h => (ra env h).bind fun v h => match v with
      | .d (.bool true) => r1 env h
      | .d (.bool false) => r2 env h
      | _ => .bad) σ H Q) : tIf (tT K xr B Wx ra) (tE K xr B Wx r1) (tE K xr B Wx r2) σ H Q := by
  obtain ⟨m, F, env, h, S, p⟩ := p
  refine ⟨m, F, env, h, S, p.bind.mono fun w h1 m1 F1 H1 x1 S1 p => ?_⟩
  split at p
  · exact ⟨true, rfl, iteT ⟨m1, F1, env, h1, S1, p⟩⟩
  · exact ⟨false, rfl, iteF ⟨m1, F1, env, h1, S1, p⟩⟩
  · exact p.elim
theorem snd_ife {c x y : E} (hc : SndE M xr T n b B c) (hx : SndE M xr T n b B x) (hy : SndE M xr T n b B y) : SndE M xr T n b B (.ife c x y) := by
  intro X Wx sc p k h
  cases p <;> simp only [matE, Bool.false_eq_true, Bool.and_eq_true] at h
  refine ⟨(pe_ifExp ((hc X Wx sc _ k h.1.1.1).pt h.1.1.2) (hx X Wx sc _ k h.1.2).pe (hy X Wx sc _ k h.2).pe).weak fun σ H Q q => ?_, (fun z => by cases z), (fun z => by cases z)⟩
  simp only [tE, evE] at q
  exact bindT1 q
theorem snd_idx {x i : E} (hx : SndE M xr T n b B x) (hi : SndE M xr T n b B i) : SndE M xr T n b B (.idx x i) := by
  intro X Wx sc p k h
  cases p <;> try (simp only [matE, Bool.false_eq_true] at h; done)
  rename_i pa pi pos
  simp only [matE, Bool.and_eq_true] at h
  have hp : PlainIx pi := by
    intro o i
    cases pi <;> first | rfl | (simp [notSlice] at h)
  exact SE.of_plain ((pe_ix (ix_E k.hw k.hu) (hx X Wx sc _ k h.1.2).pe (hi X Wx sc _ k h.2).pe hp).weak fun σ H Q q => tOp_read (f := fun a i h => evIdx h a i) σ H Q (by simpa only [tE, evE] using q)) (fun _ => rfl) rfl
/-- a part of a slice -/
def tOe (K : PySem.W.Frag) (xr : XRel) (B : BB) (Wx : WX) (f : Vars → Hq → R (Option W)) : TO := fun σ H Q => ∃ m F env h, SR K B m F env h σ H ∧ PostG K xr B Wx m F env σ H (f env h) (fun w _ m' F' H' => ∃ i, intO w = some i ∧ Q i H')
theorem po_of {X : Cx} {Wx : WX} {sc : Scope} {o : Oe} {p : Option Expr} (k : XOk X Wx M xr T n B sc) (ho : ∀ e, o = .some e → SndE M xr T n b B e) (h : matOe M sc o p = true) : PO X p (tOe X.K xr B Wx (evOe b (callN T n) o)) := by
  cases o with
  | none =>
    cases p with
    | some _ => simp [matOe] at h
    | none =>
      refine ⟨fun pins s σ H Q I q => po_none.run pins s σ H Q I ?_⟩
      obtain ⟨m, F, env, hq, S, q⟩ := q
      obtain ⟨i, e, q⟩ := q m F H (.refl ..) S
      cases e
      exact q
  | some e =>
    cases p with
    | none => simp [matOe] at h
    | some p =>
      simp only [matOe] at h
      refine ⟨fun pins s σ H Q I q => (po_some (ho e rfl X Wx sc p k h).pe).run pins s σ H Q I ?_⟩
      obtain ⟨m, F, env, hq, S, q⟩ := q
      simp only [evOe] at q
      refine ⟨m, F, env, hq, S, q.bind.mono fun w h1 m1 F1 H1 x1 S1 q v rv => ?_⟩
      obtain ⟨i, e, q⟩ := q m1 F1 H1 (.refl ..) S1
      unfold intO at e
      split at e
      · rename_i e2; cases e2
      · rename_i j e2
        cases e2
        cases e
        have rv : Dp X.K F1 v (.int j) := rv
        cases rv
        exact ⟨j, rfl, q⟩
      · cases e
theorem snd_slc {x : E} {lo hi : Oe} (hx : SndE M xr T n b B x) (h1 : ∀ e, lo = .some e → SndE M xr T n b B e) (h2 : ∀ e, hi = .some e → SndE M xr T n b B e) : SndE M xr T n b B (.slc x lo hi) := by
  intro X Wx sc p k h
  cases p <;> try (simp only [matE, Bool.false_eq_true] at h; done)
  rename_i pa ps pos
  cases ps <;> try (simp [matE] at h; done)
  rename_i pl ph pst pos2
  cases pst <;> try (simp [matE] at h; done)
  simp only [matE, Bool.and_eq_true] at h
  refine SE.of_plain ((pe_slice (sl_E (xr := xr) (B := B) (Wx := Wx)) (hx X Wx sc _ k h.1.1).pe (po_of k h1 h.1.2) (po_of k h2 h.2)).weak fun σ H Q q => ?_) (fun _ => rfl) rfl
  obtain ⟨m, F, env, hq, S, q⟩ := q
  simp only [evE] at q
  refine ⟨m, F, env, hq, S, q.bind.mono fun w h1 m1 F1 H1 x1 S1 q v rv => ⟨m1, F1, env, h1, S1, q.bind.mono fun l h2 m2 F2 H2 x2 S2 q => ?_⟩⟩
  split at q
  · rename_i i ei
    refine ⟨i, ei, m2, F2, env, h2, S2, q.bind.mono fun u h3 m3 F3 H3 x3 S3 q => ?_⟩
    split at q
    · rename_i j ej
      exact ⟨j, ej, m3, F3, env, h3, σ, w, S3, wr_mono (x2.trans x3).ml (x2.trans x3).sub rv, q⟩
    · exact q.elim
  · exact q.elim
theorem snd_slcM {x : E} {lo hi : Oe} (hx : SndE M xr T n b B x) (h1 : ∀ e, lo = .some e → SndE M xr T n b B e) (h2 : ∀ e, hi = .some e → SndE M xr T n b B e) : SndE M xr T n b B (.slcM x lo hi) := by
  intro X Wx sc p k h
  cases p <;> try (simp only [matE, Bool.false_eq_true] at h; done)
  rename_i pa ps pos
  cases ps <;> try (simp [matE] at h; done)
  rename_i pl ph pst pos2
  cases pst <;> try (simp [matE] at h; done)
  simp only [matE, Bool.and_eq_true] at h
  refine SE.of_plain ((pe_slice (sl_M (xr := xr) (B := B) (Wx := Wx)) (hx X Wx sc _ k h.1.1).pe (po_of k h1 h.1.2) (po_of k h2 h.2)).weak fun σ H Q q => ?_) (fun _ => rfl) rfl
  obtain ⟨m, F, env, hq, S, q⟩ := q
  simp only [evE] at q
  refine ⟨m, F, env, hq, S, q.bind.mono fun w h1 m1 F1 H1 x1 S1 q v rv => ⟨m1, F1, env, h1, S1, q.bind.mono fun l h2 m2 F2 H2 x2 S2 q => ?_⟩⟩
  split at q
  · rename_i i ei
    refine ⟨i, ei, m2, F2, env, h2, S2, q.bind.mono fun u h3 m3 F3 H3 x3 S3 q => ?_⟩
    split at q
    · rename_i j ej
      exact ⟨j, ej, m3, F3, env, h3, σ, w, S3, wr_mono (x2.trans x3).ml (x2.trans x3).sub rv, q⟩
    · exact q.elim
  · exact q.elim
end
end Ev

/-! EvRv: xs[::-1] of lists and tuples. -/
namespace Ev
open PySem PySem.Spec PyProof.Rows HT
section
variable {prog : Program} {w : World} {A : Around} {E : Value → Shared → Prop} {s : Shared}
theorem places_rev (n : Nat) : Builtin.Slice.slicePlaces ((n : Int) - 1) (-1) (-1) = n := by
  unfold Builtin.Slice.slicePlaces
  rw [if_neg (by decide)]
  by_cases h : n = 0
  · subst h; rfl
  · rw [if_pos (by omega), show -(-1 : Int) = 1 from rfl, Int.ediv_one]
    omega
theorem sliceApplied_rev {sl : Addr} {vl vu vs : Value} {n : Nat} {Q : Int × Int × Nat → Shared → Prop} (hs : s.heap.IsSliceOf sl vl vu vs) (pl : IsPart vl none) (pu : IsPart vu none) (ps : IsPart vs (some (-1)))
    (h : Q ((n : Int) - 1, -1, n) s) : wpAny (model prog w) A (Builtin.Slice.sliceApplied (.ref sl) (pure (n : Int))) Q E s := by
  obtain ⟨os, hos, hcs, hds⟩ := id hs
  unfold Builtin.Slice.sliceApplied Builtin.Slice.sliceFields
  refine wpAny_bind (wpAny_bind (wpAny_field hos hds (x := vl) rfl (wpAny_bind (wpAny_field hos hds (x := vu) rfl (wpAny_bind (wpAny_field hos hds (x := vs) rfl (wpAny_pure ?_)))))))
  refine wpAny_bind (slicePart_ ps ?_)
  show wpAny _ _ (if ((-1 : Int) == 0) = true then _ else _) _ _ s
  rw [if_neg (by decide)]
  refine wpAny_bind (slicePart_ pl (wpAny_bind (slicePart_ pu (wpAny_bind (wpAny_pure ?_)))))
  show wpAny _ _ (pure ((n : Int) - 1, (-1 : Int), Builtin.Slice.slicePlaces ((n : Int) - 1) (-1) (-1))) _ _ s
  rw [places_rev]
  exact wpAny_pure h
theorem pick_rev (xs : Array Value) : ((List.range xs.size).filterMap fun (m : Nat) => xs[(((xs.size : Int) - 1) + (m : Int) * (-1)).toNat]?).toArray = xs.toList.reverse.toArray := by
  refine congrArg List.toArray ?_
  have e : (List.range xs.size).filterMap (fun (m : Nat) => xs[(((xs.size : Int) - 1) + (m : Int) * (-1)).toNat]?) = (List.range xs.size).filterMap (fun m => xs.toList.reverse[m]?) := by
    have fc : ∀ (l : List Nat) (f g : Nat → Option Value), (∀ m ∈ l, f m = g m) → l.filterMap f = l.filterMap g := fun l f g => by
      induction l with
      | nil => intro _; rfl
      | cons x l ih =>
        intro h
        rw [List.filterMap_cons, List.filterMap_cons, h x List.mem_cons_self, ih fun m hm => h m (List.mem_cons_of_mem _ hm)]
    refine fc _ _ _ fun m hm => ?_
    have hm := List.mem_range.mp hm
    have e1 : (((xs.size : Int) - 1) + (m : Int) * (-1)).toNat = xs.size - 1 - m := by omega
    rw [e1, List.getElem?_reverse (by simpa using hm), Array.length_toList, Array.getElem?_toList]
  rw [e]
  have g : ∀ l : List Value, (List.range l.length).filterMap (fun m => l[m]?) = l := fun l => by
    induction l with
    | nil => rfl
    | cons x l ih =>
      rw [List.length_cons, List.range_succ_eq_map, List.filterMap_cons]
      simp only [List.getElem?_cons_zero, List.filterMap_map]
      refine congrArg (x :: ·) ?_
      have : (fun m => (x :: l)[m]?) ∘ Nat.succ = fun m => l[m]? := by funext m; simp
      rw [this, ih]
  have := g xs.toList.reverse
  rw [List.length_reverse, Array.length_toList] at this
  exact this
theorem getItem_tuple_rev {t sl : Addr} {items : Array Value} {vl vu vs : Value} {Q : Value → Shared → Prop} (ht : IsTup s.heap t items) (hs : s.heap.IsSliceOf sl vl vu vs) (pl : IsPart vl none) (pu : IsPart vu none) (ps : IsPart vs (some (-1)))
    (h : Q (.ref s.heap.objs.size) { s with heap := s.heap.push { cls := .type "tuple", data := .seq items.toList.reverse.toArray } })
    (hsz : items.size ≤ sizeLine) : wpAny (model prog w) A (getItem (.ref t) (.ref sl)) Q E s := by
  have htake : sizeOk (.seq items.toList.reverse.toArray) := by
    show items.toList.reverse.toArray.size ≤ sizeLine
    rw [List.size_toArray, List.length_reverse, Array.length_toList]
    exact hsz
  obtain ⟨os, hos, hcs, hds⟩ := id hs
  have hTs : s.TypeIs (.ref sl) "slice" := ⟨os, hos, hcs⟩
  unfold getItem
  try with_reducible refine wpAny_holding ?_
  first | refine wpAny_bind (wpAny_pure ?_) | skip
  refine wpAny_bind (wpAny_sequenceKey ht.typeIs (by decide) ?_)
  refine wpAny_bind (wpAny_callSpecial?_slot (name := Str.ofString "__getitem__") ht.typeIs PyProof.Rows.slot_tuple_getitem
    (wpAny_call_entry PyProof.Rows.slot_tuple_getitem ht.typeIs entry_tuple_getitem ?_ (args_tuple_getitem _ _)))
  show wpAny _ _ (Builtin.Tuple.tupleItemsOf (.ref t) >>= _) _ _ s
  refine wpAny_bind (tupleItemsOf_ ht ?_)
  refine wpAny_bind (wpAny_typeOf hTs ?_)
  rw [if_pos (by decide)]
  refine wpAny_bind (sliceApplied_rev hs pl pu ps ?_)
  have hno : ¬ ((((items.size : Int) - 1) == 0 && (-1 : Int) == 1 && items.size == items.size) = true) := by
    intro q
    rw [Bool.and_eq_true, Bool.and_eq_true] at q
    exact absurd q.1.2 (by decide)
  show wpAny _ _ (if (((items.size : Int) - 1) == 0 && (-1 : Int) == 1 && items.size == items.size) = true then _ else _) _ _ s
  rw [if_neg hno, pick_rev]
  first
    | exact wpAny_bind (m := Builtin.Tuple.tupleExact _) (wpAny_newObj_type (wpAny_pure ⟨_, rfl, wpAny_pure h⟩) htake)
    | exact wpAny_bind (m := Builtin.Tuple.tupleExact _) (wpAny_newObj_type (wpAny_bind (wpAny_pure (wpAny_pure ⟨_, rfl, wpAny_pure h⟩))) htake)
    | exact wpAny_bind (wpAny_bind (m := Builtin.Tuple.tupleExact _) (wpAny_newObj_type (wpAny_pure (wpAny_pure ⟨_, rfl, wpAny_pure h⟩)) htake))
    | exact wpAny_bind (wpAny_bind (m := Builtin.Tuple.tupleExact _) (wpAny_newObj_type (wpAny_pure ⟨_, rfl, wpAny_pure h⟩) htake))
end
end Ev
namespace Ev
open PySem PySem.Spec PyProof.Rows L2
section
variable {X : Cx}
def tRevA (K : PySem.W.Frag) (te : TE) : TE := fun σ H Q => te σ H fun x H1 => ∃ a xs, x = .ref a ∧
  ((SqL K H1 a xs ∧ ∀ p, H1 p = none → Q (.ref p) (upd H1 p (.lst xs.reverse))) ∨ (SqT K H1 a xs ∧ ∀ p, H1 p = none → Q (.ref p) (upd H1 p (.tup xs.reverse))))
theorem pe_revA {e : Expr} {te : TE} {k : Nat} {p1 p2 p3 pos : Pos} (he : PE X e te) : PE X (.Subscript e (.Slice none none (some (.UnaryOp .USub (.Constant (.int 1) k p1) p2)) p3) pos) (tRevA X.K te) := by
  refine ⟨fun pins s σ H Q I h => ?_⟩
  refine Subscript_ (thn (he.run pins s σ H _ I h) fun v s1 ⟨x, H1, I1, r1, q1⟩ => ?_)
  obtain ⟨a, xs, ex, hx⟩ := q1
  subst ex
  cases r1
  have hst : PO X (some (.UnaryOp .USub (.Constant (.int 1) k p1) p2)) (tPart (tUn (rU fun i => .int (-i)) (tC (.int 1)))) := po_some (pe_un un_neg pe_int)
  refine wpAny_Slice (thn (po_none.run pins s1 σ H1 (fun o H2 => o = none ∧ H2 = H1) I1 ⟨rfl, rfl⟩) fun vl s2 ⟨l, H2, I2, pl, el, e2⟩ => ?_)
  subst el e2
  refine thn (po_none.run pins s2 σ H2 (fun o H3 => o = none ∧ H3 = H2) I2 ⟨rfl, rfl⟩) fun vu s3 ⟨u, H3, I3, pu, eu, e3⟩ => ?_
  subst eu e3
  refine thn (hst.run pins s3 σ H3 (fun o H4 => o = some (-1) ∧ H4 = H3) I3 ⟨1, rfl, -1, rfl, rfl, rfl⟩) fun vs s4 ⟨o, H4, I4, ps, eo, e4⟩ => ?_
  subst eo e4
  have I5 : Inv X pins σ H4 { s4 with heap := s4.heap.push { cls := .type "slice", data := .fields #[vl, vu, vs] } } := I4.kept (t' := s4.toks) fun b ob q => Heap.get?_push_of_some _ q
  show wpAny (model X.prog X.w) X.A (subscriptTail e (.Slice none none (some (.UnaryOp .USub (.Constant (.int 1) k p1) p2)) p3) (.ref a) (.ref s4.heap.objs.size)) (EP X pins σ Q) X.xe { s4 with heap := s4.heap.push { cls := .type "slice", data := .fields #[vl, vu, vs] } }
  rcases hx with ⟨hx, q⟩ | ⟨hx, q⟩
  · obtain ⟨its, r, ht, hz⟩ := I5.list hx
    have hlen := r.length
    refine tail_any (ops := [.ref a, .ref s4.heap.objs.size]) ht.isList.typeIs (PySem.slot_list_getitem.lookup) ?_ (by with_unfolding_all rfl)
    refine wpAny_getItem_list_slice ht.isList (Heap.IsSliceOf.new _ vl vu vs) pl pu ps (by decide) ?_ (by rw [List.size_toArray]; omega)
    rw [PySem.W.krv_pick]
    refine ⟨.ref _, _, I5.laid (t' := s4.toks) (o := .lst xs.reverse) (fun b ob q => Heap.get?_push_of_some _ q) (Nat.le_refl _) ?_, rfl, q _ (I5.hok.fresh (Nat.le_refl _))⟩
    exact ⟨by rw [List.length_reverse]; exact hz, _, 0, r.reverse, Heap.get?_push_size _ rfl⟩
  · obtain ⟨its, r, ht, hz⟩ := I5.tuple hx
    have hlen := r.length
    refine tail_any (ops := [.ref a, .ref s4.heap.objs.size]) ht.typeIs (PyProof.Rows.slot_tuple_getitem.lookup) ?_ (by with_unfolding_all rfl)
    refine getItem_tuple_rev ht (Heap.IsSliceOf.new _ vl vu vs) pl pu ps ?_ (by rw [List.size_toArray]; omega)
    refine ⟨.ref _, _, I5.laid (t' := s4.toks) (o := .tup xs.reverse) (fun b ob q => Heap.get?_push_of_some _ q) (Nat.le_refl _) ?_, rfl, q _ (I5.hok.fresh (Nat.le_refl _))⟩
    exact ⟨by rw [List.length_reverse]; exact hz, _, r.reverse, IsTup.new _ _⟩
end
section
variable [Wd]
variable {M : ME} {xr : XRel} {T : List FD} {n b : Nat} {B : BB}
theorem dps_reverse {K : PySem.W.Frag} {F : Hp} : ∀ {vs : List V} {ds : List PyData}, DpAll K F vs ds → DpAll K F vs.reverse ds.reverse := by
  have app : ∀ {vs vs2 : List V} {ds ds2 : List PyData}, DpAll K F vs ds → DpAll K F vs2 ds2 → DpAll K F (vs ++ vs2) (ds ++ ds2) := by
    intro vs
    induction vs with
    | nil => intro vs2 ds ds2 h h2; cases h; exact h2
    | cons v vs ih => intro vs2 ds ds2 h h2; cases h with | cons h1 h3 => exact .cons h1 (ih h3 h2)
  intro vs
  induction vs with
  | nil => intro ds h; cases h; exact .nil
  | cons v vs ih =>
    intro ds h
    cases h with
    | cons h1 h3 =>
      rw [List.reverse_cons, List.reverse_cons]
      exact app (ih h3) (.cons h1 .nil)
theorem snd_rev {x : E} (hx : SndE M xr T n b B x) : SndE M xr T n b B (.rev x) := by
  intro X Wx sc p k h
  cases p <;> try (simp only [matE, Bool.false_eq_true] at h; done)
  rename_i pa ps pos
  cases ps <;> try (simp [matE] at h; done)
  rename_i pl ph pst pos2
  cases pl <;> try (simp [matE] at h; done)
  cases ph <;> try (simp [matE] at h; done)
  cases pst <;> try (simp [matE] at h; done)
  rename_i pst
  cases pst <;> try (simp [matE] at h; done)
  rename_i o pc pos3
  cases o <;> try (simp [matE] at h; done)
  cases pc <;> try (simp [matE] at h; done)
  rename_i c k1 pos4
  cases c <;> try (simp [matE] at h; done)
  rename_i i
  by_cases hi : i = 1
  · subst hi
    simp only [matE] at h
    refine SE.of_plain ((pe_revA (hx X Wx sc _ k h).pe).weak fun σ H Q q => ?_) (fun _ => rfl) rfl
    simp only [tE, evE] at q
    refine bind1 (ra := evE b (callN T n) x) q fun m F env hq H w v S r q => ?_
    unfold evRev at q
    split at q
    · rename_i xs e
      obtain ⟨a, vs, rfl, sq, dd⟩ := (now_of S.hr r e).list S.hr.sub
      exact ⟨a, vs, rfl, .inl ⟨sq, fun p hp => PostE.newF q S hp (dp_newL S.hr hp (dps_reverse dd))⟩⟩
    · rename_i xs e
      obtain ⟨a, vs, rfl, sq, dd, dx⟩ := (now_of S.hr r e).tuple S.hr.sub
      exact ⟨a, vs, rfl, .inr ⟨sq, fun p hp => PostE.newF q S hp (dp_newT S.hr hp (dps_reverse dd))⟩⟩
    · exact q.elim
  · exact absurd h (by simp [matE, hi])
end
end Ev

/-! EvSt: sorted(tuple). -/
namespace Ev
open PySem PySem.Calls PyProof.Rows PySem.W
section
variable {prog : Program} {w : World} {A : Around} {E : Value → Shared → Prop} {s : Shared}
theorem collect_tup {l : Addr} {vs : List Value} {Q : List Value → Shared → Prop} (hl : IsTup s.heap l vs.toArray)
    (h : Q vs { s with heap := (s.heap.push (seqObj "list" #[] 0)).update s.heap.objs.size (Obj.mapSeq (· ++ vs.toArray)) }) (hsz : vs.length ≤ sizeLine := by size_fits) :
    wpAny (model prog w) A (collect (.ref l)) Q E s := by
  obtain ⟨o, ho, hc, n, hd⟩ := id hl
  unfold collect
  refine wpAny_bind (wpAny_runValue (codeAny_builtin entry_proto_collect' ?_))
  show wpAny _ _ (do again (.builtin "list.__iadd__" ⟨[← newList [], .ref l], []⟩)) _ _ s
  refine wpAny_bind (wpAny_newList (wpAny_pure ⟨Code.quiet_builtin _ (by decide +kernel), codeAny_builtin entry_list_iadd' ?_⟩))
  show wpAny _ _ (Builtin.List.listExtendWith (.ref s.heap.objs.size) (.ref l) (.ref s.heap.objs.size)) _ _ { s with heap := s.heap.push (seqObj "list" #[] 0) }
  unfold Builtin.List.listExtendWith
  have ho' : (s.heap.push (seqObj "list" #[] 0)).get? l = some o := Heap.get?_push_of_some _ ho
  refine wpAny_bind (wpAny_typeOf (T := "tuple") ⟨o, ho', hc⟩ ?_)
  have ht : (Value.type "tuple" == Value.type "tuple") = true := by rfl
  rw [if_pos (by rw [ht]; simp)]
  refine wpAny_bind (listItems_at ho' hd ?_)
  refine wpAny_bind (listItems_at (xs := #[]) (n := 0) (Heap.get?_push_size _ rfl) rfl ?_)
  rw [if_neg (by simp)]
  refine wpAny_bind (listUpdate_at (xs := #[]) (n := 0) (Heap.get?_push_size _ rfl) rfl ?_ (Nat.zero_le _) (by show (#[] ++ vs.toArray).size ≤ sizeLine + 1; simp only [Array.size_append, List.size_toArray, List.length_nil]; omega))
  refine wpAny_pure ?_
  show wpAny (model prog w) A (do
      let o ← load s.heap.objs.size
      match o.data with
      | .seq xs _ => pure xs.toList
      | _ => unsupported "internal:collect") Q E { s with heap := (s.heap.push (seqObj "list" #[] 0)).update s.heap.objs.size (Obj.mapSeq (· ++ vs.toArray)) }
  refine wpAny_bind (wpAny_load (get?_update_seq (Heap.get?_push_size _ rfl) _) ?_)
  show wpAny _ _ (pure ((#[] : Array Value) ++ vs.toArray).toList) Q E _
  rw [show ((#[] : Array Value) ++ vs.toArray).toList = vs by simp]
  exact wpAny_pure h
theorem sorted_of_sortT {l : Addr} {vs : List Value} {kw : List (Str × Value)} {Q : Value → Shared → Prop} (hl : IsTup s.heap l vs.toArray) (hL : vs.length ≤ sizeLine) (ha1 : argsOk "sorted" ⟨[.ref l], kw⟩) (ha2 : ∀ x, argsOk "list.sort" ⟨[.ref x], kw⟩)
    (body : ∀ E' : Value → Shared → Prop, wpAny (model prog w) A.in1.in1 (Builtin.«list.sort» ⟨[.ref (s.heap.objs.size + 1)], kw⟩) (fun f s' => f = .done (.ret .none) ∧ Q (.ref (s.heap.objs.size + 1)) s') E' { s with heap := copyHeap s.heap vs }) :
    wpAny (model prog w) A (call (.builtin "sorted") [.ref l] kw) Q E s := by
  refine call_function_entry_kw kind_sorted plain_sorted entry_sorted ha1 ?_
  unfold Builtin.«sorted»
  refine wpAny_bind (m := checkCount "sorted" 1 1 _) (wpAny_pure ?_)
  refine wpAny_bind (collect_tup hl ?_ hL)
  refine wpAny_bind (wpAny_newList ?_ hL)
  have hsz : ((s.heap.push (seqObj "list" #[] 0)).update s.heap.objs.size (Obj.mapSeq (· ++ vs.toArray))).objs.size = s.heap.objs.size + 1 := by
    rw [Heap.size_update, size_push']
  show wpAny _ _ _ _ _ { s with heap := copyHeap s.heap vs }
  rw [hsz]
  refine wpAny_bind (wpAny_holding (wpAny_call_entry_kw slot_list_sort ⟨_, copyHeap_at s.heap vs, rfl⟩ entry_list_sort ?body (ha2 _)))
  case body =>
    show wpAny (model prog w) A.in1.in1 (Builtin.«list.sort» ⟨[.ref (s.heap.objs.size + 1)], kw⟩) _ _ _
    refine wpAny_mono (body _) (fun f s' hf => ?_) fun _ _ e => e
    obtain ⟨rfl, hq⟩ := hf
    exact ⟨_, rfl, wpAny_pure ⟨_, rfl, hq⟩⟩
theorem sorted_valsT {κ : PyProof.Rows.KeyKind} {l : Addr} {vs : List Value} {Q : Value → Shared → Prop} (hl : IsTup s.heap l vs.toArray) (S : SortsAt prog w A.in1.in1 { s with heap := sortingHeap (copyHeap s.heap vs) (s.heap.objs.size + 1) vs } κ vs) (hL : vs.length ≤ sizeLine)
    (h : Q (.ref (s.heap.objs.size + 1)) { s with heap := sortedAll s.heap vs (sortVals κ false vs vs).toArray }) : wpAny (model prog w) A (call (.builtin "sorted") [.ref l]) Q E s :=
  sorted_of_sortT hl hL (args_sorted1 _) (fun _ => args_list_sort _) fun _ => list_sort_vals (s := { s with heap := copyHeap s.heap vs }) (copyHeap_at s.heap vs) S hL ⟨rfl, h⟩
theorem sorted_dataT {β : Type} {R : Value → β → Prop} {enc : β → PyData} {bs : List β} {vs : List Value} {l : Addr} {Q : Value → Shared → Prop} (hl : IsTup s.heap l vs.toArray) (e : EachIs R vs bs) (er : EachIs (fun v b => ∃ as, Reads s.heap v (enc b) as) vs bs) (hal : AllAlike (bs.map enc)) (hk : Sortable (bs.map enc)) (hL : bs.length ≤ sizeLine)
    (hu : ∀ b, b ∈ bs → A.units + 2 + (enc b).depth < cLine) (h : ∀ out, out.length = bs.length → EachIs R out (bs.mergeSort (dataLe false enc)) → Q (.ref (s.heap.objs.size + 1)) { s with heap := sortedAll s.heap vs (List.toArray out) }) :
    wpAny (model prog w) A (call (.builtin "sorted") [.ref l]) Q E s := by
  have er' : EachIs (fun v b => ∃ as, Reads (sortingHeap (copyHeap s.heap vs) (s.heap.objs.size + 1) vs) v (enc b) as) vs bs := er.mono fun _ _ ⟨as, r⟩ => ⟨as, PyProof.Rows.Reads.keeps (fun _ _ => sorting_copy_old) r⟩
  refine sorted_valsT hl (SortsAt.data (s := { s with heap := sortingHeap (copyHeap s.heap vs) (s.heap.objs.size + 1) vs }) (each_map (R := fun v d => ∃ as, Reads (sortingHeap (copyHeap s.heap vs) (s.heap.objs.size + 1) vs) v d as) enc er') hal hk (fun d hd => ?_)) (by rw [e.length]; exact hL)
    (h _ (by rw [sortVals_length false rfl]; exact e.length) (sortVals_data false e er' hal))
  obtain ⟨b, hb, rfl⟩ := List.mem_map.mp hd
  exact hu b hb
end
end Ev

/-! EvS: set(xs) of a list of ints, and sorted of it. -/
namespace Ev
open PySem PySem.Spec PyProof.Rows L2
/-- an empty set, as the model makes it -/
def oS (w : World) : Obj := { cls := .type "set", dict := none, data := .set #[] 0 (.fresh 0 0 (!w.params.followText "set-order")) }
section
variable {P : Program} {w : World} {A : Around} {E : Value → Shared → Prop} {s : Shared}
theorem new_oS {h : Heap} : (h.push (oS w)).get? h.objs.size = some (oS w) := Heap.get?_push_size _ rfl
theorem code_oS (a : Value) {Q : Value → Shared → Prop} (h : Q (.ref s.heap.objs.size) { s with heap := s.heap.push (oS w) }) :
    codeAny (model P w) A (.call (.builtin "set.__new__") ⟨[.type "set", a], []⟩) (wants Q E) s := code_set_led1 a h
set_option maxHeartbeats 3200000 in
theorem set_list {l : Addr} {xs : Array Value} (ns : List Int) {Q : Value → Shared → Prop} (hh : A.handled = none) (hl : s.heap.IsList l xs) (hit : IntsAre xs.toList ns) (hb : ns.length + 1 < scanBound)
    (h : ∀ (h' : Heap) (tk c : Nat), SetR w h' s.heap.objs.size (fun j => decide (j ∈ ns)) c → c ≤ ns.length → (∀ b o, s.heap.get? b = some o → h'.get? b = some o) → Q (.ref s.heap.objs.size) { s with heap := h', toks := tk }) :
    wpAny (model P w) A (call (.type "set") [.ref l]) Q E s := by
  have sz : xs.size = ns.length := by simpa using IntsAre.length hit
  have ⟨_, _, _⟩ := F.called_set.mro
  have m1 := F.called_set.made
  have m2 := F.called_set.sub
  have m3 := F.called_set.notType
  have m4 := F.called_set.canCreate
  have m5 := F.typeCall_set_1 (.ref l)
  refine wpAny_call (codeAny_of_tree (show wpAny _ _ (callAny (.type "set") _) _ _ _ from ?_))
  refine wpAny_pure ⟨Code.quiet_builtin _ (by decide +kernel), codeAny_builtin F.entry_type_call ?_⟩
  have hw := Around.under_plain (A := A) (weight_type_call_type "set" [.ref l] []) rfl
  rw [hw]
  repeat (any_goals (first | assumption | wp_step))
  refine codeAny_mono (code_oS (.ref l) (E := E) (Q := fun x z => x = .ref s.heap.objs.size ∧ z = { s with heap := s.heap.push (oS w) }) ⟨rfl, rfl⟩) fun r z hr => ?_
  rcases r with e | (x | _ | _ | _) <;> first | exact hr | exact hr.elim | skip
  obtain ⟨rfl, rfl⟩ := hr
  have isT : Shared.TypeIs { s with heap := s.heap.push (oS w) } (.ref s.heap.objs.size) "set" := ⟨_, new_oS, rfl⟩
  have i1 := F.called_set.init.lookup
  have i2 := F.called_set.init.bind (.ref s.heap.objs.size)
  repeat (any_goals (first | assumption | wp_step))
  refine codeAny_mono (codeAny_call_builtin (R := wants (fun r z => r = .none ∧ ∃ h' tk c, z = { s with heap := h', toks := tk } ∧ SetR w h' s.heap.objs.size (fun j => decide (j ∈ ns)) c ∧ c ≤ ns.length ∧ (∀ b o, s.heap.get? b = some o → h'.get? b = some o)) E)
    F.called_set.init.plain F.entry_set_init (check_set_init_1 isT ?_)) fun r z hz => ?_
  · obtain ⟨⟨cl, di, da, sl⟩, ho, e1, k, e2⟩ := hl
    simp only at e1 e2
    subst e1 e2
    have ho' : (s.heap.push (oS w)).get? l = some { cls := .type "list", dict := di, data := .seq xs k, slots := sl } := Heap.get?_push_of_some _ ho
    have f1 := F.sub_list_set
    have f2 := F.sub_list_frozenset
    have f3 : (Value.type "list" == Value.type "dict") = false := by decide
    have hl' : (s.heap.push (oS w)).IsList l xs := ⟨_, ho', rfl, k, rfl⟩
    unfold Builtin.«set.__init__» noKeywords Builtin.Frozenset.updateFrom
    generalize hPI : pyIter = PI
    wp_walk
    subst hPI
    refine wpAny_pyIter_list hl' (wpAny_bind (wpAny_runValue ?_))
    have lt : l < s.heap.objs.size := Heap.lt_size ho
    have sz1 : (s.heap.push (oS w)).objs.size = s.heap.objs.size + 1 := Heap.size_push ..
    refine set_update_ints ((Walks.list (show A.in1.in1.in1.handled = none by simp [hh]) _ l (by rw [sz1]; exact Nat.ne_of_lt (Nat.lt_succ_of_lt lt)) xs).toS) s.heap.objs.size
      (by simp only [List.mem_cons, List.not_mem_nil, or_false, not_or]; rw [sz1]; exact ⟨Nat.ne_of_lt (Nat.lt_succ_self _), Nat.ne_of_gt lt⟩) ns sz hb (fun i v hv => ?_) (xs.size - 0) 0 _ (by omega) (Nat.zero_le _)
      ⟨⟨_, Heap.get?_push_size _ rfl, rfl, rfl⟩, hl'.push _⟩ ⟨0, Nat.le_refl 0, setR_new_at (Heap.get?_push_of_some _ new_oS)⟩ ?_
    · have hi : i < ns.length := by rw [← sz]; exact (Array.getElem?_eq_some_iff.mp hv).1
      obtain ⟨t, e⟩ := IntsAre.int_at hit i v (by rw [Array.getElem?_toList]; exact hv)
      exact ⟨ns[i], t, List.getElem?_eq_getElem hi, by rw [e, List.getD_eq_getElem?_getD, List.getElem?_eq_getElem hi] <;> rfl⟩
    · rintro ⟨h', g2, d', tk', os'⟩ c hm hc hS
      obtain rfl : g2 = s.gens := hm.gens
      obtain rfl : d' = s.drawn := hm.drawn
      obtain rfl : os' = s.os := hm.os
      refine show wpAny _ _ _ _ _ _ from wpAny_pure (show wpAny _ _ (ret Value.none) _ _ _ from ?_)
      rw [sz] at hc
      refine wpAny_pure ⟨rfl, h', tk', c, rfl, hS, hc, fun b o e => ?_⟩
      have b0 : b < s.heap.objs.size := Heap.lt_size e
      refine hm.heap b o ?_ (Heap.get?_push_of_some _ (Heap.get?_push_of_some _ e))
      simp only [List.mem_cons, List.not_mem_nil, or_false, not_or]
      rw [sz1]
      exact ⟨Nat.ne_of_lt b0, Nat.ne_of_lt (Nat.lt_succ_of_lt b0)⟩
  · rcases r with e | (x | _ | _ | _) <;> first | exact hz | exact hz.elim | skip
    obtain ⟨rfl, h', tk, c, rfl, k1, k2, k3⟩ := hz
    repeat (any_goals (first | assumption | wp_step))
    exact h _ _ _ k1 k2 k3
end
section
variable {X : Cx}
/-- set(xs) of ints -/
theorem cr_setL : CallR X (.type "set") (fun vs H Q => X.calm = true ∧ ∃ (a : Addr) (ns : List Int), vs = [V.ref a] ∧ SqL X.K H a (ns.map V.int) ∧ ns.length < 4000 ∧ ∀ c p, c ≤ ns.length → H p = none → Q (.ref p) (upd H p (SetO X.w p (fun j => decide (j ∈ ns)) c))) := by
  intro pins s σ H vs us Q I r h
  obtain ⟨hc, a, ns, rfl, sq, hn, q⟩ := h
  obtain ⟨u, rfl, ru⟩ := vals1 r
  cases ru
  obtain ⟨its, rv, pl, _⟩ := I.list sq
  refine set_list ns (I.ok.hd hc) pl.isList (by simpa using rv.ints) (by unfold scanBound; omega) fun h' tk c R hle keep => ?_
  refine ⟨.ref s.heap.objs.size, _, I.laid (t' := tk) (o := SetO X.w s.heap.objs.size (fun j => decide (j ∈ ns)) c) keep (Nat.le_refl _) (setO_new R), rfl, q c _ hle (I.hok.fresh (Nat.le_refl _))⟩
end
end Ev

/-! EvY: repr, and the least, the greatest, the order of data of one kind. -/
namespace Ev
open PySem PySem.Spec L2
variable [Wd]
section
variable {K : PySem.W.Frag}
mutual
theorem dp_noDict {F : Hp} : ∀ (d : PyData) (v : V), Dp K F v d → d.hasDict = false
  | .none, _, _ => rfl
  | .bool b, _, _ => rfl
  | .int i, _, _ => rfl
  | .str x, _, _ => rfl
  | .list ds, _, h => by
    cases h with
    | lst hs ha => simp only [PyData.hasDict]; exact dps_noDict ds _ ha
  | .tuple ds, _, h => by
    cases h with
    | tup hs ha => simp only [PyData.hasDict]; exact dps_noDict ds _ ha
  | .dict _, _, h => by cases h
theorem dps_noDict {F : Hp} : ∀ (ds : List PyData) (vs : List V), DpAll K F vs ds → PyData.hasDictAll ds = false
  | [], _, _ => rfl
  | d :: ds, _, h => by
    cases h with
    | cons h1 h2 => simp only [PyData.hasDictAll, dp_noDict d _ h1, dps_noDict ds _ h2, Bool.or_self]
end
end
section
variable {X : Cx} {xr : XRel} {B : BB} {Wx : WX}
theorem shownP_ok {d r : PyData} (h : shownP d = some r) : r = .str d.shown ∧ d.showable = true ∧ d.depth ≤ 150 ∧ d.shown.length ≤ SZ := by
  unfold shownP at h
  split at h
  · rename_i hc
    simp only [Bool.and_eq_true, decide_eq_true_eq] at hc
    cases h
    exact ⟨rfl, hc.1, of_decide_eq_true hc.2.1, hc.2.2⟩
  · cases h
theorem cr_repr (gd : X.A.guards = some []) (hu : X.A.units + 200 < cLine) : CallR X (.builtin "repr") (rB X.K xr B Wx (evB .repr)) := by
  intro pins s σ H xs us Q I rs hq
  obtain ⟨m, F, env, h, σ', ws, S, r, p⟩ := hq
  match ws, r, p with
  | [w], r, p =>
    obtain ⟨v, rfl, r'⟩ := one_of r
    simp only [evB] at p
    obtain ⟨d, e, p⟩ := liftO_cases p
    rw [Option.bind_eq_some_iff] at e
    obtain ⟨x, e1, e2⟩ := e
    obtain ⟨rfl, hs, hd, hz⟩ := shownP_ok e2
    have q : Q (.str x.shown) H := PostE.now p S (.str _)
    have szE := sz_eq
    have dp := toDD_dp S.hr r' e1
    obtain ⟨u, rfl, ru⟩ := vals1 rs
    have nd := dp_noDict x _ dp
    obtain ⟨as, rd⟩ := Dp.reads I x v u dp ru
    have big : ∀ a, u = Value.ref a → wpAny (model X.prog X.w) X.A (call (.builtin "repr") [u]) (EP X pins σ Q) X.xe s := by
      intro a ea
      subst ea
      exact PySem.repr_of_reads' rd hs (fun z => by rw [nd] at z; cases z) gd (by omega) (fun _ _ z => z) (fun h' t tk k => ⟨.str x.shown, H, I.kept (t' := tk) k, ⟨_, rfl⟩, q⟩) (by omega)
    cases x
    case none => cases dp; cases ru; exact PySem.P.repr_of_none ⟨.str _, H, I.tok _, ⟨_, rfl⟩, q⟩
    case bool b => cases dp; cases ru; exact PySem.P.repr_of_bool ⟨.str _, H, I.tok _, ⟨_, rfl⟩, q⟩
    case int i =>
      cases dp
      obtain ⟨t, rfl⟩ := ru
      exact PySem.P.repr_of_int (by simpa [PyData.showable] using hs) ⟨.str _, H, I.tok _, ⟨_, rfl⟩, q⟩
    case str z =>
      cases dp
      obtain ⟨t, rfl⟩ := ru
      exact PySem.P.repr_of_str ⟨.str _, H, I.tok _, ⟨_, rfl⟩, q⟩ (by simp only [PyData.shown] at hz; omega)
    case list ds =>
      cases dp
      exact big _ ru
    case tuple ds =>
      cases dp
      exact big _ ru
    case dict ds => cases dp
  | [], _, p => exact p.elim
  | _ :: _ :: _, _, p => exact p.elim
/-- an item that reads as one of the data is that datum -/
theorem item_of {K : PySem.W.Frag} {pins : List (Addr × Obj)} {σ : L2.St} {F H : Hp} {s : Shared} (hK : X.K = K) (I : Inv X pins σ H s) (le : HpLe F H) {vs : List V} {ds : List PyData} {its : List Value} (dd : DpAll K F vs ds) (rv : Vals vs its) {i : Nat} {u : Value} {z : PyData} {h' : Heap} {bs : List Addr}
    (hv : its[i]? = some u) (hr : Reads h' u z bs) (hk : ∀ b o, s.heap.get? b = some o → h'.get? b = some o) (hz : z.plain = true) : ∃ v, RelV v u ∧ Dp K F v z := by
  subst hK
  have hi : i < vs.length := by rw [rv.length]; exact (List.getElem?_eq_some_iff.mp hv).1
  obtain ⟨u', e1, ru⟩ := rv.get (i := i) (x := vs[i]) (by simp [hi])
  rw [hv] at e1
  cases e1
  have hd : i < ds.length := by rw [← dd.length]; exact hi
  obtain ⟨v, e2, dv⟩ := dd.get (i := i) (x := ds[i]) (by simp [hd])
  have e3 : vs[i] = v := by
    have : vs[i]? = some vs[i] := by simp [hi]
    rw [this] at e2
    exact Option.some.inj e2
  rw [e3] at ru
  obtain ⟨as, rd⟩ := Dp.reads I ds[i] v u (dp_mono le _ _ dv) ru
  have a1 := SeqAt.readOf_plain (dp_plain _ _ dv) (PyProof.Rows.Reads.keeps hk rd)
  have a2 := SeqAt.readOf_plain hz hr
  have : z = ds[i] := by rw [← a2, a1]
  rw [this]
  exact ⟨v, ru, dv⟩
theorem minD_mem (x : PyData) : ∀ r : List PyData, PySem.W.minD x r ∈ x :: r := by
  intro r
  unfold PySem.W.minD
  induction r generalizing x with
  | nil => simp
  | cons y r ih =>
    rw [List.foldl_cons]
    have := ih (if PySem.W.dataLt y x = true then y else x)
    rcases List.mem_cons.mp this with e | e
    · rw [e]
      split <;> simp
    · exact List.mem_cons_of_mem _ (List.mem_cons_of_mem _ e)
theorem maxD_mem (x : PyData) : ∀ r : List PyData, PySem.W.maxD x r ∈ x :: r := by
  intro r
  unfold PySem.W.maxD
  induction r generalizing x with
  | nil => simp
  | cons y r ih =>
    rw [List.foldl_cons]
    have := ih (if PySem.W.dataLt x y = true then y else x)
    rcases List.mem_cons.mp this with e | e
    · rw [e]
      split <;> simp
    · exact List.mem_cons_of_mem _ (List.mem_cons_of_mem _ e)
theorem plain_mem : ∀ {ds : List PyData} {z : PyData}, PyData.plainAll ds = true → z ∈ ds → z.plain = true
  | [], _, _, h => by simp at h
  | d :: ds, z, e, h => by
    simp only [PyData.plainAll, Bool.and_eq_true] at e
    rcases List.mem_cons.mp h with rfl | h
    · exact e.1
    · exact plain_mem e.2 h
theorem notNo_ok {x : PyData} (h : notNo x = true) : x ≠ .none := by
  intro e; subst e; simp [notNo] at h
theorem alkAll_ok {xs : List PyData} (h : alkAll xs = true) : PySem.W.AlikeAll xs := by
  unfold alkAll at h
  simp only [List.all_eq_true, Bool.and_eq_true] at h
  exact ⟨fun x hx y hy => (h x hx).2 y hy, fun x hx => notNo_ok (h x hx).1⟩
theorem intsOf_eq : ∀ {ds : List PyData} {ns : List Int}, intsOf ds = some ns → ds = ns.map .int
  | [], _, e => by simp [intsOf] at e; subst e; rfl
  | d :: ds, _, e => by
    cases d <;> simp only [intsOf, reduceCtorEq] at e
    rw [Option.map_eq_some_iff] at e
    obtain ⟨ns, e, rfl⟩ := e
    rw [intsOf_eq e]
    rfl
theorem alike_intsA (ns : List Int) : PySem.W.AlikeAll (ns.map .int) := by
  refine ⟨fun x hx y hy => ?_, fun x hx => ?_⟩
  · obtain ⟨a, _, rfl⟩ := List.mem_map.mp hx
    obtain ⟨b, _, rfl⟩ := List.mem_map.mp hy
    simp [PySem.W.alike]
  · obtain ⟨a, _, rfl⟩ := List.mem_map.mp hx
    simp
theorem seq_now {m : List Addr} {F H : Hp} {h : Hq} (S : HR X.K B.c m F h H) {w : W} {v : V} {d : PyData} {xs : List PyData} (r : WR X.K m F v w) (e : toD h w = some d) (e2 : seqOf d = some xs) :
    ∃ a vs, v = .ref a ∧ DpAll X.K F vs xs ∧ (SqL X.K H a vs ∨ SqT X.K H a vs) := by
  cases d <;> simp only [seqOf, reduceCtorEq] at e2
  · cases e2
    obtain ⟨a, vs, rfl, sq, dd⟩ := (now_of S r e).list S.sub
    exact ⟨a, vs, rfl, dd, .inl sq⟩
  · cases e2
    obtain ⟨a, vs, rfl, sq, dd, _⟩ := (now_of S r e).tuple S.sub
    exact ⟨a, vs, rfl, dd, .inr sq⟩
theorem foldMax_ok : ∀ (ns : List Int) (n : Int), ns.foldl max n ∈ n :: ns ∧ ∀ y ∈ n :: ns, y ≤ ns.foldl max n
  | [], n => by simp
  | k :: ns, n => by
    obtain ⟨h1, h2⟩ := foldMax_ok ns (max n k)
    rw [List.foldl_cons]
    refine ⟨?_, fun y hy => ?_⟩
    · rcases List.mem_cons.mp h1 with e | e
      · rw [e]
        by_cases q : k ≤ n
        · rw [Int.max_eq_left q]; simp
        · rw [Int.max_eq_right (by omega)]; simp
      · simp [e]
    · have hb := h2 (max n k) List.mem_cons_self
      rcases List.mem_cons.mp hy with e | hy
      · subst e; have := Int.le_max_left y k; omega
      · rcases List.mem_cons.mp hy with e | hy
        · subst e; have := Int.le_max_right n y; omega
        · exact h2 y (List.mem_cons_of_mem _ hy)
theorem foldMin_ok : ∀ (ns : List Int) (n : Int), ns.foldl min n ∈ n :: ns ∧ ∀ y ∈ n :: ns, ns.foldl min n ≤ y
  | [], n => by simp
  | k :: ns, n => by
    obtain ⟨h1, h2⟩ := foldMin_ok ns (min n k)
    rw [List.foldl_cons]
    refine ⟨?_, fun y hy => ?_⟩
    · rcases List.mem_cons.mp h1 with e | e
      · rw [e]
        by_cases q : n ≤ k
        · rw [Int.min_eq_left q]; simp
        · rw [Int.min_eq_right (by omega)]; simp
      · simp [e]
    · have hb := h2 (min n k) List.mem_cons_self
      rcases List.mem_cons.mp hy with e | hy
      · subst e; have := Int.min_le_left y k; omega
      · rcases List.mem_cons.mp hy with e | hy
        · subst e; have := Int.min_le_right n y; omega
        · exact h2 y (List.mem_cons_of_mem _ hy)
theorem maxI_ok : ∀ {ns : List Int} {m : Int}, maxI ns = some m → m ∈ ns ∧ ∀ y ∈ ns, y ≤ m
  | [], _, h => by cases h
  | n :: ns, m, h => by
    unfold maxI at h
    cases e : maxI ns with
    | none =>
      rw [e] at h
      cases h
      have : ns = [] := by
        cases ns with
        | nil => rfl
        | cons x l => unfold maxI at e; split at e <;> cases e
      subst this
      simp
    | some k =>
      rw [e] at h
      cases h
      obtain ⟨h1, h2⟩ := maxI_ok e
      split
      · refine ⟨by simp, fun y hy => ?_⟩
        rcases List.mem_cons.mp hy with e | hy
        · omega
        · have := h2 y hy; omega
      · refine ⟨by simp [h1], fun y hy => ?_⟩
        rcases List.mem_cons.mp hy with e | hy
        · omega
        · exact h2 y hy
theorem minI_ok : ∀ {ns : List Int} {m : Int}, minI ns = some m → m ∈ ns ∧ ∀ y ∈ ns, m ≤ y
  | [], _, h => by cases h
  | n :: ns, m, h => by
    unfold minI at h
    cases e : minI ns with
    | none =>
      rw [e] at h
      cases h
      have : ns = [] := by
        cases ns with
        | nil => rfl
        | cons x l => unfold minI at e; split at e <;> cases e
      subst this
      simp
    | some k =>
      rw [e] at h
      cases h
      obtain ⟨h1, h2⟩ := minI_ok e
      split
      · refine ⟨by simp, fun y hy => ?_⟩
        rcases List.mem_cons.mp hy with e | hy
        · omega
        · have := h2 y hy; omega
      · refine ⟨by simp [h1], fun y hy => ?_⟩
        rcases List.mem_cons.mp hy with e | hy
        · omega
        · exact h2 y hy
theorem maxP_ok {xs : List PyData} {r : PyData} (h : maxP xs = some r) : ∃ x l, xs = x :: l ∧ PySem.W.AlikeAll xs ∧ PyData.depthAll xs ≤ 150 ∧ r = PySem.W.maxD x l := by
  unfold maxP at h
  split at h
  · rename_i ns e
    have e := intsOf_eq e
    subst e
    rw [Option.map_eq_some_iff] at h
    obtain ⟨k, e, rfl⟩ := h
    obtain ⟨h1, h2⟩ := maxI_ok e
    cases ns with
    | nil => simp at h1
    | cons n ns =>
      refine ⟨_, _, rfl, alike_intsA _, by rw [PySem.W.depth_ints]; omega, ?_⟩
      rw [PySem.W.maxD_ints]
      obtain ⟨g1, g2⟩ := foldMax_ok ns n
      have a := h2 _ g1
      have b := g2 _ h1
      have : k = ns.foldl max n := by omega
      rw [this]
  · split at h
    · cases h
    · rename_i x l _
      split at h
      · rename_i hc
        simp only [Bool.and_eq_true] at hc
        cases h
        exact ⟨x, l, rfl, alkAll_ok hc.1, of_decide_eq_true hc.2, rfl⟩
      · cases h
theorem minP_ok {xs : List PyData} {r : PyData} (h : minP xs = some r) : ∃ x l, xs = x :: l ∧ PySem.W.AlikeAll xs ∧ PyData.depthAll xs ≤ 150 ∧ r = PySem.W.minD x l := by
  unfold minP at h
  split at h
  · rename_i ns e
    have e := intsOf_eq e
    subst e
    rw [Option.map_eq_some_iff] at h
    obtain ⟨k, e, rfl⟩ := h
    obtain ⟨h1, h2⟩ := minI_ok e
    cases ns with
    | nil => simp at h1
    | cons n ns =>
      refine ⟨_, _, rfl, alike_intsA _, by rw [PySem.W.depth_ints]; omega, ?_⟩
      rw [PySem.W.minD_ints]
      obtain ⟨g1, g2⟩ := foldMin_ok ns n
      have a := h2 _ g1
      have b := g2 _ h1
      have : k = ns.foldl min n := by omega
      rw [this]
  · split at h
    · cases h
    · rename_i x l _
      split at h
      · rename_i hc
        simp only [Bool.and_eq_true] at hc
        cases h
        exact ⟨x, l, rfl, alkAll_ok hc.1, of_decide_eq_true hc.2, rfl⟩
      · cases h
theorem two_of {m : List Addr} {F : Hp} {vs : List V} {w w2 : W} (r : WRs X.K m F vs [w, w2]) : ∃ v v2, vs = [v, v2] ∧ WR X.K m F v w ∧ WR X.K m F v2 w2 := by
  cases r with
  | cons r1 r2 =>
    cases r2 with
    | cons r2 r3 =>
      cases r3
      exact ⟨_, _, rfl, r1, r2⟩
theorem cr_maxE (hc : X.calm = true) (hu : X.A.units + 200 < cLine) : CallR X (.builtin "max") (rB X.K xr B Wx (evB .max)) := by
  intro pins s σ H xs us Q I rs hq
  obtain ⟨m, F, env, h, σ', ws, S, r, p⟩ := hq
  match ws, r, p with
  | [w], r, p =>
    obtain ⟨v, rfl, r'⟩ := one_of r
    simp only [evB] at p
    obtain ⟨d, e, p⟩ := liftO_cases p
    rw [Option.bind_eq_some_iff] at e
    obtain ⟨ds, e, ex⟩ := e
    rw [Option.bind_eq_some_iff] at e
    obtain ⟨d0, e, eds⟩ := e
    obtain ⟨a, vs, rfl, dd, sq⟩ := seq_now S.hr r' e eds
    obtain ⟨x, l, rfl, al, hd, rfl⟩ := maxP_ok ex
    obtain ⟨u, rfl, ru⟩ := vals1 rs
    cases ru
    have pl := dps_plain _ _ dd
    have hz := plain_mem pl (maxD_mem x l)
    have dd' := dps_mono S.hr.sub _ _ dd
    rcases sq with sq | sq
    · obtain ⟨its, rv, hl, _⟩ := I.list sq
      obtain ⟨as, h4⟩ := Dp.readsAll I (x :: l) vs its dd' rv
      refine PySem.W.max_list_data (vs := its.toArray) (I.ok.hd hc) hl.isList (by simpa using h4) al (by omega) fun i u h' tk bs hv hr hk => ?_
      obtain ⟨v, rvu, dv⟩ := item_of rfl I S.hr.sub dd rv (by simpa using hv) hr hk hz
      exact ⟨v, H, I.kept (t' := tk) hk, rvu, PostE.now p S dv⟩
    · obtain ⟨its, rv, hl, _⟩ := I.tuple sq
      obtain ⟨as, h4⟩ := Dp.readsAll I (x :: l) vs its dd' rv
      refine PySem.W.max_tuple_data (vs := its.toArray) (I.ok.hd hc) (show s.heap.IsTuple a its.toArray from hl) (by simpa using h4) al (by omega) fun i u h' tk bs hv hr hk => ?_
      obtain ⟨v, rvu, dv⟩ := item_of rfl I S.hr.sub dd rv (by simpa using hv) hr hk hz
      exact ⟨v, H, I.kept (t' := tk) hk, rvu, PostE.now p S dv⟩
  | [], _, p => exact p.elim
  | [w, w2], r, p =>
    cases w with
    | l _ => exact (show False by simpa [evB, PostG] using p).elim
    | x _ _ => exact (show False by simpa [evB, PostG] using p).elim
    | d d =>
      cases d <;> try exact (show False by simpa [evB, PostG] using p).elim
      rename_i i
      cases w2 with
      | l _ => exact (show False by simpa [evB, PostG] using p).elim
      | x _ _ => exact (show False by simpa [evB, PostG] using p).elim
      | d e =>
        cases e <;> try exact (show False by simpa [evB, PostG] using p).elim
        rename_i j
        obtain ⟨v, v2, rfl, r1, r2⟩ := two_of r
        have r1 : Dp X.K F v (.int i) := r1
        have r2 : Dp X.K F v2 (.int j) := r2
        cases r1; cases r2
        exact call_max2 hc pins s σ H _ us Q I rs ⟨i, j, rfl, PostE.now p S (.int _)⟩
  | _ :: _ :: _ :: _, _, p => exact (show False by simpa [evB, PostG] using p).elim
theorem cr_minE (hc : X.calm = true) (hu : X.A.units + 200 < cLine) : CallR X (.builtin "min") (rB X.K xr B Wx (evB .min)) := by
  intro pins s σ H xs us Q I rs hq
  obtain ⟨m, F, env, h, σ', ws, S, r, p⟩ := hq
  match ws, r, p with
  | [w], r, p =>
    obtain ⟨v, rfl, r'⟩ := one_of r
    simp only [evB] at p
    obtain ⟨d, e, p⟩ := liftO_cases p
    rw [Option.bind_eq_some_iff] at e
    obtain ⟨ds, e, ex⟩ := e
    rw [Option.bind_eq_some_iff] at e
    obtain ⟨d0, e, eds⟩ := e
    obtain ⟨a, vs, rfl, dd, sq⟩ := seq_now S.hr r' e eds
    obtain ⟨x, l, rfl, al, hd, rfl⟩ := minP_ok ex
    obtain ⟨u, rfl, ru⟩ := vals1 rs
    cases ru
    have pl := dps_plain _ _ dd
    have hz := plain_mem pl (minD_mem x l)
    have dd' := dps_mono S.hr.sub _ _ dd
    rcases sq with sq | sq
    · obtain ⟨its, rv, hl, _⟩ := I.list sq
      obtain ⟨as, h4⟩ := Dp.readsAll I (x :: l) vs its dd' rv
      refine PySem.W.min_list_data (vs := its.toArray) (I.ok.hd hc) hl.isList (by simpa using h4) al (by omega) fun i u h' tk bs hv hr hk => ?_
      obtain ⟨v, rvu, dv⟩ := item_of rfl I S.hr.sub dd rv (by simpa using hv) hr hk hz
      exact ⟨v, H, I.kept (t' := tk) hk, rvu, PostE.now p S dv⟩
    · obtain ⟨its, rv, hl, _⟩ := I.tuple sq
      obtain ⟨as, h4⟩ := Dp.readsAll I (x :: l) vs its dd' rv
      refine PySem.W.min_tuple_data (vs := its.toArray) (I.ok.hd hc) (show s.heap.IsTuple a its.toArray from hl) (by simpa using h4) al (by omega) fun i u h' tk bs hv hr hk => ?_
      obtain ⟨v, rvu, dv⟩ := item_of rfl I S.hr.sub dd rv (by simpa using hv) hr hk hz
      exact ⟨v, H, I.kept (t' := tk) hk, rvu, PostE.now p S dv⟩
  | [], _, p => exact p.elim
  | [w, w2], r, p =>
    cases w with
    | l _ => exact (show False by simpa [evB, PostG] using p).elim
    | x _ _ => exact (show False by simpa [evB, PostG] using p).elim
    | d d =>
      cases d <;> try exact (show False by simpa [evB, PostG] using p).elim
      rename_i i
      cases w2 with
      | l _ => exact (show False by simpa [evB, PostG] using p).elim
      | x _ _ => exact (show False by simpa [evB, PostG] using p).elim
      | d e =>
        cases e <;> try exact (show False by simpa [evB, PostG] using p).elim
        rename_i j
        obtain ⟨v, v2, rfl, r1, r2⟩ := two_of r
        have r1 : Dp X.K F v (.int i) := r1
        have r2 : Dp X.K F v2 (.int j) := r2
        cases r1; cases r2
        exact call_min2 hc pins s σ H _ us Q I rs ⟨i, j, rfl, PostE.now p S (.int _)⟩
  | _ :: _ :: _ :: _, _, p => exact (show False by simpa [evB, PostG] using p).elim
theorem sortI_eq {ns ms : List Int} (h : ms.Perm ns) (p : ms.Pairwise (· ≤ ·)) : ms = sortI ns := by
  refine List.Perm.eq_of_pairwise (le := (· ≤ ·)) (fun a b _ _ h1 h2 => Int.le_antisymm h1 h2) p ?_ (h.trans (List.mergeSort_perm _ _).symm)
  have := List.pairwise_mergeSort (le := fun (a b : Int) => decide (a ≤ b)) (fun a b c h1 h2 => by simp only [decide_eq_true_eq] at *; omega) (fun a b => by simp only [Bool.or_eq_true, decide_eq_true_eq]; omega) ns
  exact this.imp fun h => of_decide_eq_true h
theorem dp_ints {K : PySem.W.Frag} {F : Hp} : ∀ ns : List Int, DpAll K F (ns.map V.int) (ns.map .int)
  | [] => .nil
  | n :: ns => .cons (.int n) (dp_ints ns)
theorem srtAll_ok {xs : List PyData} (h : srtAll xs = true) : PySem.W.Sortable xs := by
  unfold srtAll at h
  rw [Bool.or_eq_true, List.all_eq_true, List.all_eq_true] at h
  rcases h with h | h
  · refine .inl fun d hd => ?_
    have := h d hd
    cases d <;> try (simp at this; done)
    rename_i ys
    cases ys with
    | nil => simp at this
    | cons y ys => exact ⟨y, ys, rfl⟩
  · refine .inr fun d hd => ?_
    have := h d hd
    cases d <;> simp at this <;> simp
theorem each_dp {F : Hp} : ∀ {vs : List V} {ds : List PyData} {its : List Value}, DpAll X.K F vs ds → Vals vs its → PySem.W.EachIs (fun u d => ∃ v, RelV v u ∧ Dp X.K F v d) its ds
  | _, _, _, .nil, .nil => .nil
  | _, _, _, .cons h1 h2, .cons r1 r2 => .cons ⟨_, r1, h1⟩ (each_dp h2 r2)
theorem dp_each {F : Hp} : ∀ {ds : List PyData} {its : List Value}, PySem.W.EachIs (fun u d => ∃ v, RelV v u ∧ Dp X.K F v d) its ds → ∃ vs, Vals vs its ∧ DpAll X.K F vs ds
  | _, _, .nil => ⟨[], .nil, .nil⟩
  | _, _, .cons ⟨v, h1, h2⟩ t => by
    obtain ⟨vs, r, d⟩ := dp_each t
    exact ⟨v :: vs, .cons h1 r, .cons h2 d⟩
theorem depth_mem : ∀ {ds : List PyData} {d : PyData}, d ∈ ds → d.depth ≤ PyData.depthAll ds
  | [], _, h => by simp at h
  | x :: ds, d, h => by
    simp only [PyData.depthAll]
    rcases List.mem_cons.mp h with rfl | h
    · omega
    · have := depth_mem h; omega
theorem dctOf_ok {h : Hq} {w : W} {kvs : List (PyData × PyData)} (e : dctOf h w = some kvs) : ∃ n, w = .l n ∧ h[n]? = some (.dct kvs) := by
  unfold dctOf at e
  split at e
  · split at e
    · rename_i eo; cases e; exact ⟨_, rfl, eo⟩
    · cases e
  · cases e
mutual
theorem reads_key_nil {h : Heap} : ∀ (d : PyData) (k : NestedKey) (v : Value) (as : List Addr), nkey d = some k → Reads h v d as → as = []
  | .none, _, _, _, _, r => by cases r; rfl
  | .bool _, _, _, _, _, r => by cases r; rfl
  | .int _, _, _, _, _, r => by cases r; rfl
  | .str _, _, _, _, _, r => by cases r; rfl
  | .list _, _, _, _, e, _ => by simp [nkey] at e
  | .dict _, _, _, _, e, _ => by simp [nkey] at e
  | .tuple ds, k, _, as, e, r => by
    simp only [nkey, Option.map_eq_some_iff] at e
    obtain ⟨ks, e, _⟩ := e
    cases r with
    | tuple h1 h2 h3 h4 => exact reads_keys_nil ds ks _ _ e h4
theorem reads_keys_nil {h : Heap} : ∀ (ds : List PyData) (ks : List NestedKey) (vs : List Value) (as : List Addr), nkeys ds = some ks → ReadsAll h vs ds as → as = []
  | [], _, _, _, _, r => by cases r; rfl
  | d :: ds, ks, _, _, e, r => by
    cases r with
    | cons r1 r2 =>
      simp only [nkeys] at e
      split at e
      · rename_i k ks' e1 e2
        rw [reads_key_nil d k _ _ e1 r1, reads_keys_nil ds ks' _ _ e2 r2]
        rfl
      · cases e
end
/-- a dict's keys, as they stand in the heap -/
theorem dk_each {F : Hp} : ∀ {kvs : List (PyData × PyData)} {es : List (NestedKey × Addr × Value)}, DK X.K F kvs es → PySem.W.EachIs (fun u d => ∃ v, RelV v u ∧ Dp X.K F v d) (es.map fun x => Value.ref x.2.1) (kvs.map (·.1))
  | _, _, .nil => .nil
  | _, _, .cons (a := a) _ h2 _ _ _ r => .cons ⟨.ref a, rfl, h2⟩ (dk_each r)
theorem dk_reads {pins : List (Addr × Obj)} {σ : L2.St} {F H : Hp} {s : Shared} (I : Inv X pins σ H s) (le : HpLe F H) {h' : Heap} (hk : ∀ b o, s.heap.get? b = some o → h'.get? b = some o) (D : Addr) : ∀ {kvs : List (PyData × PyData)} {es : List (NestedKey × Addr × Value)}, DK X.K F kvs es →
    PySem.W.EachIs (fun u d => ∃ as, Reads h' u d as ∧ D ∉ as) (es.map fun x => Value.ref x.2.1) (kvs.map (·.1))
  | _, _, .nil => .nil
  | _, _, .cons h1 h2 _ _ _ r => by
    refine .cons ?_ (dk_reads I le hk D r)
    obtain ⟨as, q⟩ := Dp.reads I _ (.ref _) (.ref _) (dp_mono le _ _ h2) rfl
    have := reads_key_nil _ _ _ _ h1 q
    subst this
    exact ⟨[], PyProof.Rows.Reads.keeps hk q, List.not_mem_nil⟩
theorem cr_sortK (hw : X.w = Wd.w) (hc : X.calm = true) (hu : X.A.units + 200 < cLine) {pins : List (Addr × Obj)} {s : Shared} {σ σ' : L2.St} {H F : Hp} {xs : List V} {us : List Value} {Q : VK} (I : Inv X pins σ H s) (rs : Vals xs us) {m : List Addr} {env : Vars} {h : Hq} {w : W}
    (S : SR X.K B m F env h σ' H) (r : WRs X.K m F xs [w]) {kvs : List (PyData × PyData)} (ed : dctOf h w = some kvs) (p : PostE X.K xr B Wx m F env σ' H (evSortK (kvs.map (·.1)) h) Q) : wpAny (model X.prog X.w) X.A (call (.builtin "sorted") us) (EP X pins σ Q) X.xe s := by
  obtain ⟨v, rfl, r'⟩ := one_of r
  obtain ⟨n, rfl, eo⟩ := dctOf_ok ed
  obtain ⟨a, em, rfl⟩ := r'
  obtain ⟨fa, es, eH, dk, nd, hz, hl⟩ := S.hr.ob n _ a eo em
  obtain ⟨u, rfl, ru⟩ := vals1 rs
  cases ru
  unfold evSortK at p
  split at p
  · rename_i hq
    simp only [Bool.and_eq_true] at hq
    obtain ⟨⟨h1, h2⟩, h3⟩ := hq
    have h3 : PyData.depthAll (kvs.map (·.1)) ≤ 150 := of_decide_eq_true h3
    have ok : ObjOk X.prog X.w H s.heap a (dctO a es) := I.hok a _ eH
    obtain ⟨⟨o, es', ep, g1, g2, g3, g4⟩, _, _⟩ := ok
    have raw : s.heap.DictRaw a es' ep := ⟨o, g1, g2, g3⟩
    have esz : es'.size = es.length := by rw [← Array.length_toList, g4, List.length_map]
    have dl : kvs.length = es.length := by
      have := PySem.W.EachIs.length (dk_each (X := X) dk)
      simpa using this.symm
    have szE := sizeLine_eq
    refine PySem.Calls.call_function_entry PyProof.Rows.kind_sorted PyProof.Rows.plain_sorted PyProof.Rows.entry_sorted (PyProof.Rows.args_sorted1 _) ?_
    unfold Builtin.«sorted»
    refine wpAny_bind (m := checkCount "sorted" 1 1 _) (wpAny_pure ?_)
    refine wpAny_bind (PySem.W.kdu_collect (A := X.A.in1) (PySem.KdlSrc.rawDict hz) (I.ok.hd hc) raw (by omega) fun h' tk acc hk hacc => ?_)
    have hv : acc.toList = es.map fun x => Value.ref x.2.1 := by
      have lz : acc.toList.length = es.length := by rw [Array.length_toList, hacc.1, esz]
      refine List.ext_getElem? fun j => ?_
      by_cases hj : j < es.length
      · have e1 : acc.toList[j]? = some (acc.toList[j]'(by omega)) := List.getElem?_eq_getElem _
        obtain ⟨hi, e2⟩ := hacc.2 j _ (by rw [← Array.getElem?_toList]; exact e1)
        rw [e1, e2]
        have e3 : es'.toList[j]? = some es'[j] := by rw [Array.getElem?_toList, Array.getElem?_eq_getElem hi]
        rw [g4, List.getElem?_map] at e3
        rw [List.getElem?_map]
        cases e4 : es[j]? with
        | none => rw [e4] at e3; cases e3
        | some x =>
          rw [e4] at e3
          simp only [Option.map_some, Option.some.injEq] at e3 ⊢
          rw [← e3]
      · rw [List.getElem?_eq_none (by omega), List.getElem?_eq_none (by rw [List.length_map]; omega)]
    refine wpAny_bind (wpAny_newList ?_ (by rw [hv, List.length_map]; omega))
    obtain ⟨D, hD⟩ : ∃ D, h'.objs.size = D := ⟨_, rfl⟩
    have keep2 : ∀ b o, s.heap.get? b = some o → (h'.push { cls := .type "list", data := .seq acc.toList.toArray }).get? b = some o := fun b o e => Heap.get?_push_of_some _ (hk b o e)
    have hDn : H D = none := by
      cases q : H D with
      | none => rfl
      | some ob => exact absurd ((I.hok.kept hk).lt q) (by rw [hD]; exact Nat.lt_irrefl _)
    have hDs : s.heap.get? D = none := by
      cases q : s.heap.get? D with
      | none => rfl
      | some o2 => exact absurd (Heap.lt_size (hk _ _ q)) (by rw [hD]; exact Nat.lt_irrefl _)
    have hat : (h'.push { cls := .type "list", data := .seq acc.toList.toArray }).get? D = some (PyProof.Rows.seqObj "list" acc.toList.toArray 0) := by rw [← hD]; exact Heap.get?_push_size _ rfl
    have hid : (kvs.map (·.1)).map (id : PyData → PyData) = kvs.map (·.1) := List.map_id _
    rw [hD]
    have al := alkAll_ok h1
    have hg := PySem.W.list_sort_data (prog := X.prog) (w := X.w) (A := X.A.in1) (E := X.xe) (s := { s with heap := h'.push { cls := .type "list", data := .seq acc.toList.toArray }, toks := tk }) (vs := acc.toList) (bs := kvs.map (·.1)) (enc := (id : PyData → PyData)) (R := fun u d => ∃ v, RelV v u ∧ Dp X.K F v d) (a := D) (n := 0)
      (Q := fun _ s' => EP X pins σ Q (.ref D) s') hat (by rw [hv]; exact dk_each dk) (by have er0 := dk_reads I S.hr.sub keep2 D dk; rw [← hv] at er0; exact er0) (by rw [hid]; exact fun d hd d' hd' => al.1 d hd d' hd') (by rw [hid]; exact srtAll_ok h2) (by rw [List.length_map]; omega)
      (fun b hb => by
        have := depth_mem hb
        show X.A.units + 1 + 1 + b.depth < cLine
        omega)
      (fun out ho he => by
        obtain ⟨vs2, rv2, dd2⟩ := dp_each he
        obtain ⟨ep2, he'⟩ := PyProof.Rows.sortedHeap_at (out := out.toArray) hat
        refine ⟨.ref _, upd H D (.lst vs2), I.laidN (t' := tk) (fun b o e => ?_) hDs hDn ⟨?_, out, ep2, rv2, he'⟩, rfl, PostE.newF p S hDn (dp_newL S.hr hDn dd2)⟩
        · have hb := Heap.lt_size (keep2 b o e)
          have hne : b ≠ D := fun z => by rw [z, hDs] at e; cases e
          rw [PyProof.Rows.sortedHeap_old hne hb]
          exact keep2 b o e
        · rw [rv2.length, ho, List.length_map]
          omega)
    refine wpAny_bind (wpAny_holding (wpAny_mono hg (fun _ s' x => ?_) fun _ _ e => e))
    exact wpAny_pure ⟨_, rfl, x⟩
  · exact p.elim
theorem cr_sortedE (hw : X.w = Wd.w) (hc : X.calm = true) (hu : X.A.units + 200 < cLine) : CallR X (.builtin "sorted") (rB X.K xr B Wx (evB .sorted)) := by
  intro pins s σ H xs us Q I rs hq
  obtain ⟨m, F, env, h, σ', ws, S, r, p⟩ := hq
  match ws, r, p with
  | [w], r, p =>
    simp only [evB] at p
    split at p
    · rename_i kvs ed
      exact cr_sortK hw hc hu I rs S r ed p
    obtain ⟨v, rfl, r'⟩ := one_of r
    simp only [evSort] at p
    obtain ⟨d, e, p⟩ := liftO_cases p
    rw [Option.map_eq_some_iff] at e
    obtain ⟨ys, e, rfl⟩ := e
    rw [Option.bind_eq_some_iff] at e
    obtain ⟨ds, e, es⟩ := e
    rw [Option.bind_eq_some_iff] at e
    obtain ⟨d0, e, eds⟩ := e
    cases d0 <;> simp only [seqOf, reduceCtorEq] at eds
    case list ds0 =>
      cases eds
      obtain ⟨a, vs, rfl, sq, dd⟩ := (now_of S.hr r' e).list S.hr.sub
      unfold sortP at es
      split at es
      · rename_i ns ei
        cases es
        have ei := intsOf_eq ei
        subst ei
        have im : ∀ ns : List Int, intsOf (ns.map .int) = some ns := fun ns => by
          induction ns with
          | nil => rfl
          | cons n ns ih => simp only [List.map_cons, intsOf, ih]; rfl
        have ev : vs = ns.map V.int := ints_vs dd (im ns)
        subst ev
        refine cr_sortedI pins s σ H _ us Q I rs ⟨a, ns, rfl, sq, fun ms q hp hs hn => ?_⟩
        rw [sortI_eq hp hs]
        exact PostE.newF p S hn (.lst sq_new (dp_ints _))
      · split at es
        · rename_i hc
          cases es
          simp only [Bool.and_eq_true] at hc
          obtain ⟨⟨h1, h2⟩, h3⟩ := hc
          have h3 : PyData.depthAll ds ≤ 150 := of_decide_eq_true h3
          obtain ⟨u, rfl, ru⟩ := vals1 rs
          cases ru
          obtain ⟨its, rv, hl, hz⟩ := I.list sq
          have dd' := dps_mono S.hr.sub _ _ dd
          obtain ⟨as, h4⟩ := Dp.readsAll I ds vs its dd' rv
          have hid : ds.map (id : PyData → PyData) = ds := List.map_id ds
          have hlen := dd.length
          refine PySem.W.sorted_data (enc := (id : PyData → PyData)) (vs := its) hl.isList (each_dp dd rv) (PySem.W.readsAll_each id (by rw [hid]; exact h4)) ?_ (by rw [hid]; exact srtAll_ok h2) (by omega) (fun b hb => ?_) fun out ho he => ?_
          · rw [hid]
            have := alkAll_ok h1
            exact fun d hd d' hd' => this.1 d hd d' hd'
          · have := depth_mem hb
            simp only [id]
            omega
          · obtain ⟨vs2, rv2, dd2⟩ := dp_each he
            obtain ⟨ep, he'⟩ := PyProof.Rows.sortedAll_at s.heap its out.toArray
            have hfree := I.hok.fresh (Nat.le_succ s.heap.objs.size)
            refine ⟨.ref _, upd H (s.heap.objs.size + 1) (.lst vs2), I.laid (t' := s.toks) (fun _ _ => PyProof.Rows.sortedAll_old) (Nat.le_succ _) ⟨?_, out, ep, rv2, he'⟩, rfl, PostE.newF p S hfree (dp_newL S.hr hfree dd2)⟩
            rw [rv2.length, ho]
            omega
        · cases es
    case tuple ds0 =>
      cases eds
      obtain ⟨a, vs, rfl, sq, dd, _⟩ := (now_of S.hr r' e).tuple S.hr.sub
      obtain ⟨u, rfl, ru⟩ := vals1 rs
      cases ru
      obtain ⟨its, rv, hl, hz⟩ := I.tuple sq
      have dd' := dps_mono S.hr.sub _ _ dd
      obtain ⟨as, h4⟩ := Dp.readsAll I ds vs its dd' rv
      have hid : ds.map (id : PyData → PyData) = ds := List.map_id ds
      have hlen := dd.length
      have go : PySem.W.AllAlike ds → PySem.W.Sortable ds → (∀ b ∈ ds, b.depth ≤ 150) → ds.mergeSort (PySem.W.dataLe false id) = ys → wpAny (model X.prog X.w) X.A (call (.builtin "sorted") [.ref a]) (EP X pins σ Q) X.xe s := fun c1 c2 c3 c4 => by
        refine sorted_dataT (enc := (id : PyData → PyData)) (vs := its) hl (each_dp dd rv) (PySem.W.readsAll_each id (by rw [hid]; exact h4)) (by rw [hid]; exact c1) (by rw [hid]; exact c2) (by omega) (fun b hb => ?_) fun out ho he => ?_
        · have := c3 b hb
          simp only [id]
          omega
        · rw [c4] at he
          obtain ⟨vs2, rv2, dd2⟩ := dp_each he
          obtain ⟨ep, he'⟩ := PyProof.Rows.sortedAll_at s.heap its out.toArray
          have hfree := I.hok.fresh (Nat.le_succ s.heap.objs.size)
          refine ⟨.ref _, upd H (s.heap.objs.size + 1) (.lst vs2), I.laid (t' := s.toks) (fun _ _ => PyProof.Rows.sortedAll_old) (Nat.le_succ _) ⟨?_, out, ep, rv2, he'⟩, rfl, PostE.newF p S hfree (dp_newL S.hr hfree dd2)⟩
          rw [rv2.length, ho]
          omega
      unfold sortP at es
      split at es
      · rename_i ns ei
        cases es
        have ei := intsOf_eq ei
        subst ei
        refine go ?_ (.inr fun d hd => ?_) (fun b hb => ?_) ?_
        · intro d hd d' hd'
          obtain ⟨i, _, rfl⟩ := List.mem_map.mp hd
          obtain ⟨j, _, rfl⟩ := List.mem_map.mp hd'
          rfl
        · obtain ⟨i, _, rfl⟩ := List.mem_map.mp hd
          exact ⟨(fun z => PyData.noConfusion z), (fun xs z => PyData.noConfusion z)⟩
        · obtain ⟨i, _, rfl⟩ := List.mem_map.mp hb
          simp [PyData.depth]
        · have e1 := PySem.W.dataLe_int (fun i : Int => i)
          rw [show sortI ns = ns.mergeSort (fun a b => decide (a ≤ b)) from rfl, ← e1]
          exact (List.map_mergeSort (f := PyData.int) (r := PySem.W.dataLe false fun i : Int => .int i) (s := PySem.W.dataLe false id) fun _ _ _ _ => rfl).symm
      · split at es
        · rename_i hc
          cases es
          simp only [Bool.and_eq_true] at hc
          obtain ⟨⟨h1, h2⟩, h3⟩ := hc
          have h3 : PyData.depthAll ds ≤ 150 := of_decide_eq_true h3
          have := alkAll_ok h1
          exact go (fun d hd d' hd' => this.1 d hd d' hd') (srtAll_ok h2) (fun b hb => by have := depth_mem hb; omega) rfl
        · cases es
  | [], _, p => exact p.elim
  | _ :: _ :: _, _, p => exact p.elim
/-- l.index(x) -/
theorem mt_idx (hu : X.A.units + 200 < cLine) : MtR X "list.index" (fun x xs H Q => ∃ m F env h σ w ws, SR X.K B m F env h σ H ∧ WR X.K m F x w ∧ WRs X.K m F xs ws ∧ PostE X.K xr B Wx m F env σ H (evM .index w ws h) Q) := by
  intro pins s σ H x xs v us Q I rx rxs hq
  obtain ⟨m, F, env, h, σ', w, ws, S, r, rs, p⟩ := hq
  match ws, rs, p with
  | [.d z], rs, p =>
    simp only [evM] at p
    split at p
    · rename_i ys e
      split at p
      · rename_i hd
        split at p
        · rename_i j ej
          obtain ⟨y, rfl, ry⟩ := one_of rs
          have dl := toDD_dp S.hr r e
          have ry1 : Dp X.K F y z := ry
          have ry' : Dp X.K H y z := dp_mono S.hr.sub _ _ ry1
          obtain ⟨uy, rfl, ruy⟩ := vals1 rxs
          obtain ⟨a, vs, rfl, sq, dd⟩ : ∃ a vs, x = .ref a ∧ SqL X.K H a vs ∧ DpAll X.K H vs ys := by
            cases dl with
            | lst h1 h2 => exact ⟨_, _, rfl, h1, h2⟩
          · cases rx
            obtain ⟨its, rv, hl, hz⟩ := I.list sq
            obtain ⟨as, h4⟩ := Dp.readsAll I ys _ its dd rv
            obtain ⟨bs, h5⟩ := Dp.reads I z y uy ry' ruy
            have hdz := of_decide_eq_true hd
            obtain ⟨⟨cls, odd, data, sl⟩, n, ho, hc, _, hd'⟩ := hl
            simp only at hc hd'
            subst hc hd'
            have rs2 : ReadsAll s.heap its.toArray.toList ys as := by simpa using h4
            obtain ⟨hj, hit, hno⟩ := SeqAt.hit_at rs2 (dps_plain _ _ dd) (d := z) (j := j) ej
            have szE := sizeLine_eq
            have hjl : j < its.length := by simpa using hj
            have hlv := rv.length
            refine call_meets PySem.F.slot_list_index ⟨_, ho, rfl⟩ PySem.F.entry_list_index (PySem.F.args_list_index_2 _ _) (SeqAt.list_indexAt a its.toArray n odd sl uy (fun u => PyData.eqv (SeqAt.readOf s.heap u) z) j hj (by omega) hit hno)
              ⟨ho, SeqAt.items_plain rs2 h5 (dps_plain _ _ dd) (dp_plain _ _ ry') (by omega), ?_⟩
            exact ⟨.int _, H, I.tok _, ⟨_, rfl⟩, PostE.now p S (.int _)⟩
        · exact p.elim
      · exact p.elim
    · exact p.elim
  | [.l _], _, p => exact p.elim
  | [], _, p => exact p.elim
  | _ :: _ :: _, _, p => exact (show False by simpa [evM, PostG] using p).elim
/-- d.get(k, v) -/
theorem mt_get (hw : X.w = Wd.w) (hu : X.A.units + 200 < cLine) : MtR X "dict.get" (fun x xs H Q => ∃ m F env h σ w ws, SR X.K B m F env h σ H ∧ WR X.K m F x w ∧ WRs X.K m F xs ws ∧ PostE X.K xr B Wx m F env σ H (evM .get w ws h) Q) := by
  intro pins s σ H x xs v us Q I rx rxs hq
  obtain ⟨m, F, env, h, σ', w, ws, S, r, rs, p⟩ := hq
  match ws, rs, p with
  | [.d k, dv], rs, p =>
    simp only [evM] at p
    split at p
    · rename_i kvs ed
      have p2 := p
      obtain ⟨n, rfl, eo⟩ := dctOf_ok ed
      obtain ⟨a, em, rfl⟩ := r
      cases rx
      obtain ⟨fa, es, eH, dk, nd, hz, hl⟩ := S.hr.ob n _ a eo em
      split at p2
      · rename_i hk
        obtain ⟨ks, nk, rfl, ek, hd⟩ := isKey_ok hk
        obtain ⟨y, y2, rfl, ry, ry2⟩ := two_of rs
        obtain ⟨u1, u2, rfl, ru1, ru2⟩ := vals2 rxs
        have ry : Dp X.K F y (.tuple ks) := ry
        have ry' := ry
        cases ry with
        | tup h1 h2 =>
          cases ru1
          have dd := dk_of hw I S.hr.sub eH dk nd
          have g := dk.get ek
          refine call_meetsIn PySem.F.slot_dict_get dd.typeIs PySem.F.entry_dict_get (PySem.F.args_dict_get_3 _ _ _) (meetsH_dict_get_default (nestedKind X.prog X.w) a _ hz u2) ⟨dk_room hu, nk, es, dk_is I S.hr.sub ek hd ry', dd, ?_⟩
          cases e : dget kvs (.tuple ks) with
          | some z =>
            rw [e] at g p2
            obtain ⟨pv, z', e1, rz, dz⟩ := g
            rw [e1]
            exact ⟨z', H, I.tok _, rz, PostE.now p2 S dz⟩
          | none =>
            rw [e] at g p2
            rw [g]
            exact ⟨y2, H, I.tok _, ru2, PostE.now p2 S ry2⟩
      · exact p2.elim
    · exact p.elim
  | [.l _, _], _, p => exact (show False by simpa [evM, PostG] using p).elim
  | [], _, p => exact p.elim
  | [.d _], _, p => exact (show False by simpa [evM, PostG] using p).elim
  | [.l _], _, p => exact (show False by simpa [evM, PostG] using p).elim
  | _ :: _ :: _ :: _, _, p => exact (show False by simpa [evM, PostG] using p).elim
end
end Ev

/-! EvSm: sum(lists, []). -/
namespace Ev
open PySem PySem.Spec L2
variable [Wd]
theorem sum2_args (a b : Value) : argsOk "sum" ⟨[a, b], []⟩ := by unfold argsOk; kernel_rfl
theorem sub_list_bytes' : isSubtype (.type "list") (.type "bytes") = pure false := by rw [isSubtype_type]; kernel_rfl
theorem sub_list_bytearray' : isSubtype (.type "list") (.type "bytearray") = pure false := by rw [isSubtype_type]; kernel_rfl
theorem sub_list_str' : isSubtype (.type "list") (.type "str") = pure false := by rw [isSubtype_type]; kernel_rfl
/-- what is still to come -/
def restL (xs : Nat → List Value) : Nat → Nat → List Value
  | _, 0 => []
  | i, k + 1 => xs i ++ restL xs (i + 1) k
section
variable {prog : Program} {w : World} {A : Around} {R : Result → Shared → Prop} {I : Addr} {fp wr : List Addr} {n : Nat} {P : Nat → Value → Prop} {St : Nat → Heap → Prop}
theorem sum_lists_loop (W : Walks prog w A.in1 I fp wr n P St) (S : Addr) (hSf : S ∉ fp) (h0 : Heap) (xs : Nat → List Value) (hw0 : ∀ b ∈ wr, h0.objs.size ≤ b) (hS0 : h0.objs.size ≤ S)
    (hwl : ∀ i h, St i h → ∀ b ∈ wr, b < h.objs.size) (hval : ∀ i v, P i v → ∃ b, v = .ref b ∧ PlainL h0 b (xs i).toArray) :
    ∀ (k i : Nat) (s : Shared) (T : Addr) (acc : List Value) (c : Nat), n - i = k → i ≤ n → St i s.heap → (∀ b o, h0.get? b = some o → s.heap.get? b = some o) →
      s.heap.get? S = some { cls := .type "list", dict := none, data := .seq #[.ref T] c, slots := #[] } → PlainL s.heap T acc.toArray → (h0.objs.size ≤ T → ∃ n, s.heap.get? T = some { cls := .type "list", data := .seq acc.toArray n }) → T ∉ wr → T ≠ S → acc.length + (restL xs i k).length ≤ sizeLine →
      (∀ h' tk T', (∀ b o, h0.get? b = some o → h'.get? b = some o) → PlainL h' T' (acc ++ restL xs i k).toArray → ((k = 0 ∧ T' = T) ∨ h0.objs.size ≤ T') → (h0.objs.size ≤ T' → ∃ n, h'.get? T' = some { cls := .type "list", data := .seq (acc ++ restL xs i k).toArray n }) → R (.ok (.ret (.ref T'))) { s with heap := h', toks := tk }) →
      codeAny (model prog w) A (.builtin "sum.loop" ⟨[.ref I, .ref S, rawInt 2, rawInt 0], []⟩) R s := by
  have hSw : S ∉ wr := fun h => hSf (W.sub _ h)
  intro k
  induction k with
  | zero =>
    intro i s T acc c hk hi hst hold hS hT hX hTw hTS hsz hR
    have hin : i = n := by omega
    subst hin
    refine codeAny_builtin F.entry_sum_loop ?_
    rw [Around.under_plainId F.plain_sum_loop _]
    show wpAny _ A.in1 (seqItems? (.ref S) >>= _) _ _ s
    refine wpAny_bind (wpAny_seqItems hS rfl ?_)
    show wpAny _ A.in1 (tryCatch (pyNext (.ref I)) _ >>= _) _ _ s
    refine wpAny_bind (wpAny_tryCatch (W.done s _ _ hst fun h' tk hk' => ?_))
    refine wpAny_pure (hR h' tk T (fun b o e => hk' b o (fun hb => ?_) (hold b o e)) ?_ (.inl ⟨rfl, rfl⟩) fun hz => ?_)
    · exact absurd (Heap.lt_size e) (Nat.not_lt_of_le (hw0 b hb))
    · simp only [restL, List.append_nil]
      exact hT.at fun o e => hk' T o hTw e
    · obtain ⟨n1, e⟩ := hX hz
      simp only [restL, List.append_nil]
      exact ⟨n1, hk' T _ hTw e⟩
  | succ k ih =>
    intro i s T acc c hk hi hst hold hS hT hX hTw hTS hsz hR
    have hlt : i < n := by omega
    refine codeAny_builtin F.entry_sum_loop ?_
    rw [Around.under_plainId F.plain_sum_loop _]
    show wpAny _ A.in1 (seqItems? (.ref S) >>= _) _ _ s
    refine wpAny_bind (wpAny_seqItems hS rfl ?_)
    show wpAny _ A.in1 (tryCatch (pyNext (.ref I)) _ >>= _) _ _ s
    refine wpAny_bind (wpAny_tryCatch (W.item i s _ _ hlt hst fun v h' tk hP hst' hk' => ?_))
    obtain ⟨b, rfl, hb⟩ := hval i v hP
    have hS' := hk' S _ hSw hS
    have hold' : ∀ b o, h0.get? b = some o → h'.get? b = some o := fun b o e => hk' b o (fun hb => absurd (Heap.lt_size e) (Nat.not_lt_of_le (hw0 b hb))) (hold b o e)
    have hb' : PlainL h' b (xs i).toArray := hb.keeps hold'
    have hT' : PlainL h' T acc.toArray := hT.at fun o e => hk' T o hTw e
    show wpAny _ A.in1 ((holding [Value.ref b] (binaryOp .Add (.ref T) (.ref b))).attempt >>= _) _ _ _
    refine wpAny_bind (wpAny_attempt (wpAny_holding ?_))
    obtain ⟨⟨cls, dd, data, sl⟩, m1, ho, hc, _, hd⟩ := hT'
    obtain ⟨⟨cls2, dd2, data2, sl2⟩, m2, ho2, hc2, _, hd2⟩ := hb'
    simp only at hc hd hc2 hd2
    subst hc hd hc2 hd2
    have e : acc.toArray ++ (xs i).toArray = (acc ++ xs i).toArray := by simp
    simp only [restL, List.length_append] at hsz
    refine concat_meets ⟨_, ho, rfl⟩ ⟨_, ho2, rfl⟩ noFill_list_add seq_list_add PySem.F.slot_list_add PySem.F.entry_list_add (PySem.F.args_list_add_2 _ _) (PyProof.Rows.list_addW T b acc.toArray (xs i).toArray m1 m2 dd dd2 sl sl2 (by rw [List.size_toArray, List.size_toArray]; omega)) ⟨ho, ho2, ?_⟩
    rw [e]
    have hS2 : (h'.push { cls := .type "list", data := .seq (acc ++ xs i).toArray }).get? S = some { cls := .type "list", dict := none, data := .seq #[.ref T] c, slots := #[] } := Heap.get?_push_of_some _ hS'
    show wpAny _ A.in1 (updateSeq S (fun _ => #[.ref h'.objs.size]) >>= _) _ _ _
    refine wpAny_bind ?_
    refine wpAny_updateSeq hS2 rfl ?_
    have hS3 := Heap.get?_update_self (Obj.mapSeq fun _ => #[Value.ref h'.objs.size]) hS2 rfl
    refine wpAny_bind (wpAny_letGo ?_)
    refine wpAny_bind ?_
    have hSlt : S < h'.objs.size := Heap.lt_size hS'
    have keep2 : ∀ c o, c ≠ S → (h'.push { cls := .type "list", data := .seq (acc ++ xs i).toArray }).get? c = some o → (((h'.push { cls := .type "list", data := .seq (acc ++ xs i).toArray }).update S (Obj.mapSeq fun _ => #[Value.ref h'.objs.size])).update S (Obj.mapSeq fun _ => #[Value.ref h'.objs.size])).get? c = some o := fun c o hc e =>
      (Heap.get?_update_other _ _ (Ne.symm hc)).trans ((Heap.get?_update_other _ _ (Ne.symm hc)).trans e)
    refine wpAny_updateSeq hS3 rfl (wpAny_pure ⟨plainId_quiet F.plain_sum_loop _, ih (i + 1) _ h'.objs.size (acc ++ xs i) _ (by omega) hlt (W.frame _ _ _ hst' fun c hc o e => ?_) (fun c o e => ?_) (Heap.get?_update_self _ hS3 rfl) ?_ (fun _ => ⟨0, keep2 _ _ (Ne.symm (Nat.ne_of_lt hSlt)) (Heap.get?_push_size _ rfl)⟩) (fun hw => ?_) (Ne.symm (Nat.ne_of_lt hSlt)) ?_ fun h'' tk'' T' hk'' hl'' ht hx => ?_⟩)
    · exact keep2 c o (fun h : c = S => hSf (h ▸ hc)) (Heap.get?_push_of_some _ e)
    · exact keep2 c o (fun h : c = S => absurd (Heap.lt_size e) (Nat.not_lt_of_le (h ▸ hS0))) (Heap.get?_push_of_some _ (hold' c o e))
    · exact ⟨_, 0, keep2 _ _ (Ne.symm (Nat.ne_of_lt hSlt)) (Heap.get?_push_size _ rfl), rfl, rfl, rfl⟩
    · have := hwl _ _ hst' _ hw
      exact Nat.lt_irrefl _ this
    · rw [List.length_append]; omega
    · refine hR h'' tk'' T' hk'' ?_ ?_ fun hz => ?_
      · simpa only [restL, List.append_assoc] using hl''
      · right
        rcases ht with ⟨_, rfl⟩ | ht
        · exact Nat.le_of_lt (Nat.lt_of_le_of_lt hS0 hSlt)
        · exact ht
      · obtain ⟨n1, e⟩ := hx hz
        exact ⟨n1, by simpa only [restL, List.append_assoc] using e⟩
end
section
variable {prog : Program} {w : World} {A : Around} {E : Value → Shared → Prop} {s : Shared}
theorem call_sum2 {a a2 : Addr} {outs : List Value} {Q : Value → Shared → Prop} (hh : A.handled = none) (hl : PlainL s.heap a outs.toArray) (h2 : PlainL s.heap a2 #[]) (xs : Nat → List Value) (hval : ∀ i v, outs[i]? = some v → ∃ b, v = .ref b ∧ PlainL s.heap b (xs i).toArray)
    (hsz : (restL xs 0 outs.length).length ≤ sizeLine)
    (h : ∀ h' tk T', (∀ b o, s.heap.get? b = some o → h'.get? b = some o) → PlainL h' T' (restL xs 0 outs.length).toArray → ((outs.length = 0 ∧ T' = a2) ∨ (s.heap.objs.size ≤ T' ∧ ∃ n, h'.get? T' = some { cls := .type "list", data := .seq (restL xs 0 outs.length).toArray n })) → Q (.ref T') { s with heap := h', toks := tk }) :
    wpAny (model prog w) A (call (.builtin "sum") [.ref a, .ref a2]) Q E s := by
  refine call_function_tree F.kind_sum F.plain_sum F.entry_sum (sum2_args _ _) ?_
  unfold Builtin.«sum»
  simp only [List.length_cons, List.length_nil]
  rw [if_neg (by decide)]
  refine wpAny_bind (wpAny_of_eq (show Builtin.Builtins.bindParams "sum" ["start"] 0 ⟨[.ref a2], []⟩ = pure [some (.ref a2)] from rfl) ?_)
  refine wpAny_bind (wpAny_pyIter_list hl.isList ?_)
  refine wpAny_bind (wpAny_pure ?_)
  have hlt : a < s.heap.objs.size := hl.lt
  have hlt2 : a2 < s.heap.objs.size := h2.lt
  obtain ⟨h1, eh1⟩ : ∃ h1, s.heap.push { cls := .type "list_iterator", data := .fields #[.ref a, .int 0 0] } = h1 := ⟨_, rfl⟩
  have old1 : ∀ b o, s.heap.get? b = some o → h1.get? b = some o := fun b o e => by rw [← eh1]; exact Heap.get?_push_of_some _ e
  have hT : Shared.TypeIs { s with heap := h1 } (.ref a2) "list" := (h2.keeps old1).isList.typeIs
  have st0 : h1.IsListIter s.heap.objs.size a 0 ∧ h1.IsList a outs.toArray := ⟨⟨_, by rw [← eh1]; exact Heap.get?_push_size _ rfl, rfl, rfl⟩, (hl.keeps old1).isList⟩
  have sz1 : h1.objs.size = s.heap.objs.size + 1 := by rw [← eh1, Heap.size_push]
  rw [eh1]
  simp only [List.forIn_cons, List.forIn_nil]
  refine wpAny_bind (wpAny_bind (wpAny_bind (wpAny_isInstance (T := "list") (b := false) hT sub_list_str' ?_)))
  simp only [Bool.false_eq_true, if_false]
  refine wpAny_pure (wpAny_bind (wpAny_bind (wpAny_isInstance (T := "list") (b := false) hT sub_list_bytes' ?_)))
  simp only [Bool.false_eq_true, if_false]
  refine wpAny_pure (wpAny_bind (wpAny_bind (wpAny_isInstance (T := "list") (b := false) hT sub_list_bytearray' ?_)))
  simp only [Bool.false_eq_true, if_false]
  refine wpAny_pure (wpAny_pure ?_)
  refine wpAny_bind (wpAny_newObj_type ?_)
  refine wpAny_pure ⟨plainId_quiet F.plain_sum_loop _, sum_lists_loop (Walks.list (A := A.in1) hh s.heap.objs.size a (Nat.ne_of_lt hlt) outs.toArray) h1.objs.size (fun hm => ?_) s.heap xs (fun b hb => ?_) (by rw [sz1]; exact Nat.le_succ _) (fun i h st b hb => ?_) (fun i v e => hval i v (by simpa using e))
    outs.length 0 _ a2 [] 0 (by simp) (by omega) ?_ (fun b o e => Heap.get?_push_of_some _ (old1 b o e)) (Heap.get?_push_size _ rfl) (h2.keeps fun b o e => Heap.get?_push_of_some _ (old1 b o e)) (fun hz => absurd hlt2 (Nat.not_lt_of_le hz)) (fun hm => ?_) (Nat.ne_of_lt (by rw [sz1]; exact Nat.lt_succ_of_lt hlt2)) (by simpa using hsz) fun h' tk T' hk hp ht hx => ?_⟩
  · rw [sz1] at hm
    rcases List.mem_cons.mp hm with e | hm
    · exact Nat.succ_ne_self _ e
    · have := List.mem_singleton.mp hm
      rw [← this] at hlt
      exact Nat.not_succ_lt_self hlt
  · rw [List.mem_singleton.mp hb]
    exact Nat.le_refl _
  · rw [List.mem_singleton.mp hb]
    obtain ⟨⟨o, ho, _⟩, _⟩ := st
    exact Heap.lt_size ho
  · exact ⟨st0.1.at fun o e => Heap.get?_push_of_some _ e, st0.2.at fun o e => Heap.get?_push_of_some _ e⟩
  · rw [List.mem_singleton.mp hm] at hlt2
    exact Nat.lt_irrefl _ hlt2
  · refine h h' tk T' hk (by simpa using hp) ?_
    rcases ht with ht | ht
    · exact .inl ht
    · obtain ⟨n1, e⟩ := hx ht
      exact .inr ⟨ht, n1, by simpa using e⟩
end
section
variable {X : Cx} {xr : XRel} {B : BB} {Wx : WX}
theorem dps_app {F : Hp} : ∀ {a : List V} {b : List PyData} {c : List V} {d : List PyData}, DpAll X.K F a b → DpAll X.K F c d → DpAll X.K F (a ++ c) (b ++ d)
  | [], [], _, _, .nil, h => h
  | _ :: _, _ :: _, _, _, .cons h1 h2, h => .cons h1 (dps_app h2 h)
/-- the lists in a list, their values -/
theorem lists_vals {pins : List (Addr × Obj)} {σ : L2.St} {F H : Hp} {s : Shared} (I : Inv X pins σ H s) (le : HpLe F H) : ∀ {vs : List V} {xss : List (List PyData)} {outs : List Value} (i : Nat), DpAll X.K F vs (xss.map .list) → Vals vs outs →
    ∃ (xs : Nat → List Value) (us : List V), (∀ j v, outs[j]? = some v → ∃ b, v = .ref b ∧ PlainL s.heap b (xs (i + j)).toArray) ∧ Vals us (restL xs i outs.length) ∧ DpAll X.K F us xss.flatten := by
  intro vs xss
  induction xss generalizing vs with
  | nil =>
    intro outs i d r
    cases d
    cases r
    exact ⟨fun _ => [], [], fun j v e => by simp at e, .nil, .nil⟩
  | cons x xss ih =>
    intro outs i d r
    cases d with
    | cons d1 d2 =>
      cases r with
      | cons r1 r2 =>
        obtain ⟨xs, us, h1, h2, h3⟩ := ih (i + 1) d2 r2
        cases d1 with
        | lst sq da =>
          rename_i v0 vs0 u0 us0 a0 vs1
          obtain ⟨its, rv, pl, _⟩ := I.list (le.sql sq)
          have rest_eq : ∀ (k j : Nat), i < j → restL (fun m => if m = i then its else xs m) j k = restL xs j k := by
            intro k
            induction k with
            | zero => intro j _; rfl
            | succ k ihk =>
              intro j hj
              simp only [restL]
              rw [if_neg (by omega), ihk (j + 1) (by omega)]
          refine ⟨fun m => if m = i then its else xs m, vs1 ++ us, fun j v e => ?_, ?_, ?_⟩
          · cases j with
            | zero =>
              simp only [List.getElem?_cons_zero, Option.some.injEq] at e
              subst e
              cases r1
              exact ⟨a0, rfl, by simpa using pl⟩
            | succ j =>
              simp only [List.getElem?_cons_succ] at e
              obtain ⟨b, e1, e2⟩ := h1 j v e
              refine ⟨b, e1, ?_⟩
              have : (if i + (j + 1) = i then its else xs (i + (j + 1))) = xs (i + 1 + j) := by rw [if_neg (by omega), show i + (j + 1) = i + 1 + j by omega]
              show PlainL s.heap b (if i + (j + 1) = i then its else xs (i + (j + 1))).toArray
              rw [this]
              exact e2
          · simp only [List.length_cons, restL, if_true]
            rw [rest_eq _ _ (by omega)]
            exact rv.append h2
          · simp only [List.flatten_cons]
            exact dps_app da h3
theorem listsOf_eq : ∀ {ds : List PyData} {xss : List (List PyData)}, listsOf ds = some xss → ds = xss.map .list
  | [], _, e => by simp [listsOf] at e; subst e; rfl
  | d :: ds, _, e => by
    cases d <;> simp only [listsOf, reduceCtorEq] at e
    rw [Option.map_eq_some_iff] at e
    obtain ⟨xss, e, rfl⟩ := e
    rw [listsOf_eq e]
    rfl
theorem cr_sum2E (hc : X.calm = true) : CallR X (.builtin "sum") (fun xs H Q => ∃ m F env h σ w, SR X.K B m F env h σ H ∧ WRs X.K m F xs [w, .d (.list [])] ∧ PostE X.K xr B Wx m F env σ H (evB .sum [w, .d (.list [])] h) Q) := by
  intro pins s σ H xs us Q I rs hq
  obtain ⟨m, F, env, h, σ', w, S, r, p⟩ := hq
  obtain ⟨v, v2, rfl, r1, r2⟩ := two_of r
  simp only [evB, evSum2] at p
  split at p
  · rename_i xss e
    rw [Option.bind_eq_some_iff] at e
    obtain ⟨ds, e, es⟩ := e
    rw [Option.bind_eq_some_iff] at e
    obtain ⟨d0, e, ed⟩ := e
    cases d0 <;> simp only [listOf, reduceCtorEq, Option.some.injEq] at ed
    subst ed
    have es := listsOf_eq es
    subst es
    split at p
    · rename_i hz
      obtain ⟨a, vs, rfl, sq, dd⟩ := (now_of S.hr r1 e).list S.hr.sub
      have r2 : Dp X.K F v2 (.list []) := r2
      cases r2 with
      | lst sq2 d2 =>
        cases d2
        rename_i a2
        have sq2F := sq2
        have sq2 := S.hr.sub.sql sq2
        have szE := sz_eq
        cases rs with
        | cons rs1 rs2 =>
          cases rs2 with
          | cons rs2 rs3 =>
            cases rs3
            cases rs1
            cases rs2
            obtain ⟨outs, rv, pl, _⟩ := I.list sq
            obtain ⟨its2, rv2, pl2, _⟩ := I.list sq2
            cases rv2
            obtain ⟨xf, uf, g1, g2, g3⟩ := lists_vals I S.hr.sub 0 dd rv
            have gl := g2.length
            have dl := g3.length
            refine call_sum2 (I.ok.hd hc) pl pl2 xf (fun i v e => by
              obtain ⟨b, e1, e2⟩ := g1 i v e
              exact ⟨b, e1, by simpa using e2⟩) (by omega) fun h' tk T' hk hp ht => ?_
            rcases ht with ⟨h0, rfl⟩ | ht
            · have ho : outs = [] := List.length_eq_zero_iff.mp h0
              subst ho
              cases rv
              cases xss with
              | nil => exact ⟨.ref _, H, I.kept (t' := tk) hk, rfl, PostE.now p S (.lst sq2F .nil)⟩
              | cons _ _ => cases dd
            · obtain ⟨ht, n1, ho⟩ := ht
              have hfree := I.hok.fresh ht
              exact ⟨.ref _, upd H T' (.lst uf), I.laid (t' := tk) hk ht ⟨by omega, _, n1, g2, ho⟩, rfl, PostE.newF p S hfree (dp_newL S.hr hfree g3)⟩
    · exact p.elim
  · exact p.elim
end
end Ev

/-! EvJ: calls, comprehensions; every expression (sndE). -/
namespace Ev
open PySem PySem.Spec L2
variable [Wd]
section
variable {M : ME} {xr : XRel} {T : List FD} {n b : Nat} {B : BB}

section
variable {X : Cx} {o e : Expr} {es : List Expr} {to : TE} {t : TA} {name : Str} {apos cpos pos : Pos} {T id : String} {r : V → List V → Hp → VK → Prop}
/-- a dict of this language -/
def isDct (x : V) (H : Hp) : Prop := ∃ a es, x = .ref a ∧ H a = some (dctO a es)
/-- d.m(e, ..) -/
theorem pe_dctm (pa : PySem.PlainAttrs "dict") (slot : PySem.Slot "dict" name id) (hty : typeOf (.builtin id) = pure (.type "method_descriptor")) (hm : MtR X id r) (ho : PE X o to) (ha : PA X (e :: es) t)
    (base : attributeBase o name X.env (eval o X.env) = eval o X.env)
    (few : ((backTo cpos (starEach (e :: es) X.env)).all (fun x => !x.1) && (backToKw cpos (keywordEach [] X.env)).all (fun x => x.1.isSome) && decide ((e :: es).length + ([] : List Keyword).length + (if ([] : List Keyword).isEmpty then 0 else 1) < 30)) = true)
    (line : (apos.endLine == cpos.line) = true) (st : starEach (e :: es) X.env = (false, eval e X.env) :: starEach es X.env) (ns : (backTo cpos (starEach es X.env)).any (·.1) = false) :
    PE X (.Call (.Attribute o name apos) (e :: es) [] cpos) (fun σ H Q => to σ H fun x H1 => isDct x H1 ∧ t σ H1 fun xs H2 => r x xs H2 Q) := by
  refine ⟨fun pins s σ H Q I q => ?_⟩
  refine wpAny_Call_method_late base few line rfl (thn (ho.run pins s σ H _ I q) fun v s1 ⟨x, H1, I1, r1, ⟨a, ds, ex, eH⟩, q1⟩ => ?_)
  subst ex
  cases r1
  have ok : ObjOk X.prog X.w H1 s1.heap a (dctO a ds) := I1.hok a _ eH
  obtain ⟨⟨ob, es', ep, h1, h2, h3, h4⟩, _, _⟩ := ok
  refine ⟨"dict", id, pa, slot, hty, ⟨ob, h1, h2.1⟩, (fun b q => by cases q; exact ⟨ob, h1, h2.2.1⟩), ?_⟩
  have hA := ha.run cpos pins s1 σ H1 _ I1 q1
  rw [st] at hA ⊢
  refine Calls.callWith_builtin (by show (false || (backTo cpos (starEach es X.env)).any (·.1)) = false; rw [ns] <;> rfl) (Calls.evalArgs_plain ?_)
  refine thn hA fun us s2 ⟨vs, H2, I2, r2, q2⟩ => ?_
  exact hm pins s2 σ H2 (.ref a) vs _ us Q I2 rfl r2 q2
/-- {} -/
theorem pe_dnewG (hw : X.w = Wd.w) : PE X (.Dict [] [] pos) (fun _ H Q => ∀ p, H p = none → (p == sysModules) = false → Q (.ref p) (upd H p (dctO p []))) := ⟨fun pins s σ H Q I q => by
  have big := I.big
  have ns : (s.heap.objs.size == sysModules) = false := beq_eq_false_iff_ne.mpr fun z => by rw [z] at big; exact absurd big (Nat.lt_irrefl _)
  refine wpAny_Dict_empty ⟨.ref s.heap.objs.size, _, I.laid (a := s.heap.objs.size) (o := dctO s.heap.objs.size []) (t' := s.toks) (fun _ _ q => Heap.get?_push_of_some _ q) (Nat.le_refl _) ?_, rfl, q _ (I.hok.fresh (Nat.le_refl _)) ns⟩
  exact dk_ok hw (Heap.DictOfH.new _)⟩
end
theorem isS_ok {w : W} (e : isS w = true) : ∃ z, w = .d (.str z) := by
  unfold isS at e
  split at e
  · exact ⟨_, rfl⟩
  · cases e
theorem isLst_ok {h : Hq} {w : W} (e : isLst h w = true) : ∃ ds, toDD h w = some (.list ds) := by
  unfold isLst at e
  split at e
  · rename_i q; exact ⟨_, q⟩
  · cases e
theorem bindA {K : PySem.W.Frag} {Wx : WX} {ra : Vars → Hq → R (List W)} {g : List W → Hq → R W} {σ : L2.St} {H : Hp} {Q : VK} {G : List V → Hp → Prop} (p : tE K xr B Wx (fun env h => (ra env h).bind g) σ H Q)
    (i : ∀ m F env h H ws vs, SR K B m F env h σ H → WRs K m F vs ws → PostE K xr B Wx m F env σ H (g ws h) Q → G vs H) : tA K xr B Wx ra σ H G := by
  obtain ⟨m, F, env, h, S, p⟩ := p
  exact ⟨m, F, env, h, S, p.bind.mono fun ws h1 m1 F1 H1 x1 S1 p vs rv => i m1 F1 env h1 H1 ws vs S1 rv p⟩

section
variable {X : Cx} {Wx : WX}
/-- sum(t) of a tuple of ints -/
theorem cr_sumT (hc : X.calm = true) : CallR X (.builtin "sum") (fun vs H Q => ∃ (a : Addr) (ns : List Int), vs = [V.ref a] ∧ SqT X.K H a (ns.map V.int) ∧ Q (.int ns.sum) H) := by
  intro pins s σ H vs us Q I r h
  obtain ⟨a, ns, rfl, hs, q⟩ := h
  obtain ⟨its, rv, hl, _⟩ := I.tuple hs
  rw [Vals.ref1 r]
  obtain ⟨xs, e⟩ := rv.ints.allInts.items
  have hn : numsOf (intItems xs).toList = ns := by rw [← e]; exact rv.ints.numsOf
  rw [nums_intItems] at hn
  rw [e] at hl
  refine PySem.W.ktm_sumG (I.ok.hd hc) (show s.heap.IsTuple a _ from hl) fun h' tk t' hk => ⟨.int _, H, I.kept hk, ⟨_, rfl⟩, ?_⟩
  rw [preSum_eq, List.take_of_length_le (by simp), hn]
  exact q
theorem ints_now {m : List Addr} {F H : Hp} {h : Hq} {w : W} {v : V} {ns : List Int} (s : HR X.K B.c m F h H) (r : WR X.K m F v w) (e : (toD h w).bind sumInts = some ns) : ∃ a, v = .ref a ∧ (SqL X.K H a (ns.map V.int) ∨ SqT X.K H a (ns.map V.int)) := by
  rw [Option.bind_eq_some_iff] at e
  obtain ⟨d, e1, e2⟩ := e
  cases d <;> simp only [sumInts, listInts, reduceCtorEq] at e2
  · obtain ⟨a, vs, rfl, sq, dd⟩ := (now_of s r e1).list s.sub
    rw [ints_vs dd e2] at sq
    exact ⟨a, rfl, .inl sq⟩
  · obtain ⟨a, vs, rfl, sq, dd, _⟩ := (now_of s r e1).tuple s.sub
    rw [ints_vs dd e2] at sq
    exact ⟨a, rfl, .inr sq⟩
theorem ints_nowL {m : List Addr} {F H : Hp} {h : Hq} {w : W} {v : V} {ns : List Int} (s : HR X.K B.c m F h H) (r : WR X.K m F v w) (e : (toD h w).bind listInts = some ns) : ∃ a, v = .ref a ∧ SqL X.K H a (ns.map V.int) := by
  rw [Option.bind_eq_some_iff] at e
  obtain ⟨d, e1, e2⟩ := e
  cases d <;> simp only [listInts, reduceCtorEq] at e2
  obtain ⟨a, vs, rfl, sq, dd⟩ := (now_of s r e1).list s.sub
  rw [ints_vs dd e2] at sq
  exact ⟨a, rfl, sq⟩
theorem cr_sumE (hc : X.calm = true) : CallR X (.builtin "sum") (rB X.K xr B Wx (evB .sum)) := by
  intro pins s σ H xs us Q I rs hq
  obtain ⟨m, F, env, h, σ', ws, S, r, p⟩ := hq
  match ws, r, p with
  | [w], r, p =>
    obtain ⟨v, rfl, r'⟩ := one_of r
    simp only [evB] at p
    obtain ⟨d, e, p⟩ := liftO_cases p
    rw [Option.map_eq_some_iff] at e
    obtain ⟨ns, e, rfl⟩ := e
    obtain ⟨a, rfl, sq⟩ := ints_now S.hr r' e
    rcases sq with sq | sq
    · exact cr_sum hc pins s σ H _ us Q I rs ⟨a, ns, rfl, sq, PostE.now p S (.int _)⟩
    · exact cr_sumT hc pins s σ H _ us Q I rs ⟨a, ns, rfl, sq, PostE.now p S (.int _)⟩
  | [], _, p => exact p.elim
  | [w, w2], r, p =>
    cases w2 with
    | l _ => exact (show False by simpa [evB, PostG] using p).elim
    | x _ _ => exact (show False by simpa [evB, PostG] using p).elim
    | d d =>
      cases d <;> try exact (show False by simpa [evB, PostG] using p).elim
      rename_i zs
      cases zs with
      | cons _ _ => exact (show False by simpa [evB, PostG] using p).elim
      | nil => exact cr_sum2E hc pins s σ H xs us Q I rs ⟨m, F, env, h, σ', w, S, r, p⟩
  | _ :: _ :: _ :: _, _, p => exact (show False by simpa [evB, PostG] using p).elim
theorem bools_vs {F : Hp} : ∀ {ds : List PyData} {vs : List V} {ns : List Bool}, DpAll X.K F vs ds → boolsOf ds = some ns → vs = ns.map V.bl
  | [], _, _, h, e => by cases h; simp [boolsOf] at e; subst e; rfl
  | d :: ds, _, _, h, e => by
    cases h with
    | cons h1 h2 =>
      cases d <;> simp only [boolsOf, reduceCtorEq] at e
      rw [Option.map_eq_some_iff] at e
      obtain ⟨ns, e, rfl⟩ := e
      cases h1
      rw [bools_vs h2 e]
      rfl
theorem bools_now {m : List Addr} {F H : Hp} {h : Hq} {w : W} {v : V} {ns : List Bool} (s : HR X.K B.c m F h H) (r : WR X.K m F v w) (e : (toD h w).bind listBools = some ns) : ∃ a, v = .ref a ∧ SqL X.K H a (ns.map V.bl) := by
  rw [Option.bind_eq_some_iff] at e
  obtain ⟨d, e1, e2⟩ := e
  cases d <;> simp only [listBools, reduceCtorEq] at e2
  obtain ⟨a, vs, rfl, sq, dd⟩ := (now_of s r e1).list s.sub
  rw [bools_vs dd e2] at sq
  exact ⟨a, rfl, sq⟩
theorem cr_allE (hc : X.calm = true) : CallR X (.builtin "all") (rB X.K xr B Wx (evB .all)) := by
  intro pins s σ H xs us Q I rs hq
  obtain ⟨m, F, env, h, σ', ws, S, r, p⟩ := hq
  match ws, r, p with
  | [w], r, p =>
    obtain ⟨v, rfl, r'⟩ := one_of r
    simp only [evB] at p
    obtain ⟨d, e, p⟩ := liftO_cases p
    rw [Option.map_eq_some_iff] at e
    obtain ⟨ns, e, rfl⟩ := e
    obtain ⟨a, rfl, sq⟩ := bools_now S.hr r' e
    exact cr_all hc pins s σ H _ us Q I rs ⟨a, ns, rfl, sq, PostE.now p S (.bl _)⟩
  | [], _, p => exact p.elim
  | _ :: _ :: _, _, p => exact p.elim
theorem cr_anyE (hc : X.calm = true) : CallR X (.builtin "any") (rB X.K xr B Wx (evB .any)) := by
  intro pins s σ H xs us Q I rs hq
  obtain ⟨m, F, env, h, σ', ws, S, r, p⟩ := hq
  match ws, r, p with
  | [w], r, p =>
    obtain ⟨v, rfl, r'⟩ := one_of r
    simp only [evB] at p
    obtain ⟨d, e, p⟩ := liftO_cases p
    rw [Option.map_eq_some_iff] at e
    obtain ⟨ns, e, rfl⟩ := e
    obtain ⟨a, rfl, sq⟩ := bools_now S.hr r' e
    exact cr_any hc pins s σ H _ us Q I rs ⟨a, ns, rfl, sq, PostE.now p S (.bl _)⟩
  | [], _, p => exact p.elim
  | _ :: _ :: _, _, p => exact p.elim
theorem cr_strE : CallR X (.type "str") (rB X.K xr B Wx (evB .str)) := by
  intro pins s σ H xs us Q I rs hq
  obtain ⟨m, F, env, h, σ', ws, S, r, p⟩ := hq
  match ws, r, p with
  | [.d (.int i)], r, p =>
    obtain ⟨v, rfl, r'⟩ := one_of r
    have r'' : Dp X.K F v (.int i) := r'
    cases r''
    simp only [evB] at p
    split at p
    · rename_i hl
      exact call_str_int pins s σ H _ us Q I rs ⟨i, rfl, hl, PostE.now p S (.str _)⟩
    · exact p.elim
  | [.d (.str a)], r, p =>
    obtain ⟨v, rfl, r'⟩ := one_of r
    have r'' : Dp X.K F v (.str a) := r'
    cases r''
    exact SkE.call_str_str pins s σ H _ us Q I rs ⟨a, rfl, PostE.now p S (.str _)⟩
  | [.d .none], _, p => exact p.elim
  | [.d (.bool _)], _, p => exact p.elim
  | [.d (.list _)], _, p => exact p.elim
  | [.d (.tuple _)], _, p => exact p.elim
  | [.d (.dict _)], _, p => exact p.elim
  | [.l _], _, p => exact p.elim
  | [.x _ _], _, p => exact p.elim
  | [], _, p => exact p.elim
  | _ :: _ :: _, _, p => exact (show False by simpa [evB, PostG] using p).elim
theorem texts_vs {F : Hp} : ∀ {ds : List PyData} {vs : List V} {ns : List Str}, DpAll X.K F vs ds → textsOf ds = some ns → vs = ns.map V.str
  | [], _, _, h, e => by cases h; simp [textsOf] at e; subst e; rfl
  | d :: ds, _, _, h, e => by
    cases h with
    | cons h1 h2 =>
      cases d <;> simp only [textsOf, reduceCtorEq] at e
      rw [Option.map_eq_some_iff] at e
      obtain ⟨ns, e, rfl⟩ := e
      cases h1
      rw [texts_vs h2 e]
      rfl
theorem dps_strs0 {K : PySem.W.Frag} {F : Hp} : ∀ zs : List Str, DpAll K F (zs.map V.str) (zs.map PyData.str)
  | [] => .nil
  | z :: zs => .cons (.str z) (dps_strs0 zs)
/-- the readings of methods -/
def rMt (K : PySem.W.Frag) (xr : XRel) (B : BB) (Wx : WX) (f : Mt) : V → List V → Hp → VK → Prop := fun x xs H Q => ∃ m F env h σ w ws, SR K B m F env h σ H ∧ WR K m F x w ∧ WRs K m F xs ws ∧ PostE K xr B Wx m F env σ H (evM f w ws h) Q
theorem mt_splE : MtR X "str.split" (rMt X.K xr B Wx .split) := by
  intro pins s σ H x xs v us Q I rx rxs hq
  obtain ⟨m, F, env, h, σ', w, ws, S, r, rs, p⟩ := hq
  match ws, rs, p with
  | [.d (.str b)], rs, p =>
    obtain ⟨y, rfl, ry⟩ := one_of rs
    have ry : Dp X.K F y (.str b) := ry
    cases ry
    simp only [evM, evSpl] at p
    split at p
    · rename_i a _
      have r : Dp X.K F x (.str a) := r
      cases r
      split at p
      · rename_i hh
        obtain ⟨h1, h2, h3⟩ := hh
        have hb : b.cps.toList ≠ [] := fun z => by rw [z] at h1; cases h1
        have bl : (b.length == 0) = false := by
          have : b.length = 1 := by show b.cps.size = 1; rw [← Array.length_toList]; exact h1
          rw [this]; rfl
        have e : Txt.split a b = (TL.spl b.cps.toList 0 [] a.cps.toList).map SX.S := by
          have := SX.split_S (a := a.cps.toList) (b := b.cps.toList) hb h2
          rw [SX.S_tl, SX.S_tl] at this
          exact this
        refine mt_split pins s σ H _ _ v us Q I rx rxs ⟨a, b, rfl, rfl, bl, by rw [← sz_eq]; exact h3, fun q hq => ?_⟩
        have ed : splD a b = (Txt.split a b).map PyData.str := by rw [e, List.map_map]; rfl
        rw [ed] at p
        exact PostE.newF p S hq (dp_newL S.hr hq (dps_strs0 _))
      · exact p.elim
    · exact p.elim
  | [.d .none], _, p => exact p.elim
  | [.d (.bool _)], _, p => exact p.elim
  | [.d (.int _)], _, p => exact p.elim
  | [.d (.list _)], _, p => exact p.elim
  | [.d (.tuple _)], _, p => exact p.elim
  | [.d (.dict _)], _, p => exact p.elim
  | [.l _], _, p => exact p.elim
  | [.x _ _], _, p => exact p.elim
  | [], _, p => exact p.elim
  | _ :: _ :: _, _, p => exact (show False by simpa [evM, PostG] using p).elim
theorem mt_joiE : MtR X "str.join" (rMt X.K xr B Wx .join) := by
  intro pins s σ H x xs v us Q I rx rxs hq
  obtain ⟨m, F, env, h, σ', w, ws, S, r, rs, p⟩ := hq
  match ws, rs, p with
  | [l], rs, p =>
    obtain ⟨y, rfl, ry⟩ := one_of rs
    simp only [evM, evJoi] at p
    split at p
    · rename_i a _
      have r : Dp X.K F x (.str a) := r
      cases r
      split at p
      · rename_i ys e
        split at p
        · rename_i hl
          rw [Option.bind_eq_some_iff] at e
          obtain ⟨ds, e, e2⟩ := e
          rw [Option.bind_eq_some_iff] at e
          obtain ⟨d, e, e3⟩ := e
          obtain ⟨q, rfl, sq⟩ : ∃ q, y = .ref q ∧ (SqL X.K H q (ys.map V.str) ∨ SqT X.K H q (ys.map V.str)) := by
            cases d <;> simp only [seqOf, Option.some.injEq, reduceCtorEq] at e3
            · subst e3
              obtain ⟨a, vs, rfl, sq, dd⟩ := (now_of S.hr ry e).list S.hr.sub
              rw [texts_vs dd e2] at sq
              exact ⟨a, rfl, .inl sq⟩
            · subst e3
              obtain ⟨a, vs, rfl, sq, dd, _⟩ := (now_of S.hr ry e).tuple S.hr.sub
              rw [texts_vs dd e2] at sq
              exact ⟨a, rfl, .inr sq⟩
          exact mt_join pins s σ H _ _ v us Q I rx rxs ⟨a, q, ys, rfl, rfl, sq, hl, PostE.now p S (.str _)⟩
        · exact p.elim
      · exact p.elim
    · exact p.elim
  | [], _, p => exact p.elim
  | _ :: _ :: _, _, p => exact (show False by simpa [evM, PostG] using p).elim
theorem mt_popE : MtR X "list.pop" (rMt X.K xr B Wx .pop) := by
  intro pins s σ H x xs v us Q I rx rxs hq
  obtain ⟨m, F, env, h, σ', w, ws, S, r, rs, p⟩ := hq
  match ws, rs, p with
  | [.d (.int i)], rs, p =>
    obtain ⟨y, rfl, ry⟩ := one_of rs
    have ry : Dp X.K F y (.int i) := ry
    cases ry
    simp only [evM, evPopi] at p
    split at p
    · rename_i nn _
      split at p
      · rename_i ys eo
        obtain ⟨al, em, rfl⟩ := r
        obtain ⟨fa, vs, eH, dd⟩ := S.hr.ob nn _ al eo em
        split at p
        · rename_i hi
          split at p
          · rename_i z ez
            obtain ⟨u, eu, ru⟩ := dd.get ez
            have dl : DpAll X.K F (vs.eraseIdx i.toNat) (ys.eraseIdx i.toNat) := by
              rw [List.eraseIdx_eq_take_drop_succ, List.eraseIdx_eq_take_drop_succ]
              exact (dd.take _).app (dd.drop _)
            obtain ⟨r', e'⟩ := S.hr.put (u := .lst (vs.eraseIdx i.toNat)) (o := .lst (ys.eraseIdx i.toNat)) em fa ⟨fa, _, upd_same, dl⟩ (fun c _ _ k hk => by simp [refs] at hk)
            have lt : i.toNat < vs.length := (List.getElem?_eq_some_iff.mp eu).1
            have sx : seqIndex? i vs.length = some i.toNat := by
              have z1 : ¬ i < 0 := by omega
              have z2 : (decide (0 ≤ i) && decide (i < (vs.length : Int))) = true := by
                rw [Bool.and_eq_true, decide_eq_true_eq, decide_eq_true_eq]
                omega
              unfold seqIndex?
              simp only [if_neg z1, z2, if_true]
            exact mt_popAt pins s σ H _ _ v us Q I rx rxs ⟨al, vs, i, i.toNat, u, rfl, rfl, eH, by omega, by omega, sx, eu, p _ _ _ e' (S.ext r' e') u ru⟩
          · exact p.elim
        · exact p.elim
      · exact p.elim
    · exact p.elim
  | [.d .none], _, p => exact p.elim
  | [.d (.bool _)], _, p => exact p.elim
  | [.d (.str _)], _, p => exact p.elim
  | [.d (.list _)], _, p => exact p.elim
  | [.d (.tuple _)], _, p => exact p.elim
  | [.d (.dict _)], _, p => exact p.elim
  | [.l _], _, p => exact p.elim
  | [.x _ _], _, p => exact p.elim
  | [], _, p => exact p.elim
  | _ :: _ :: _, _, p => exact (show False by simpa [evM, PostG] using p).elim
end
theorem snd_blt {f : Bt} {es : Es} (hes : SndEs M xr T n b B es) : SndE M xr T n b B (.blt f es) := by
  intro X Wx sc p k h
  cases p <;> try (simp only [matE, Bool.false_eq_true] at h; done)
  rename_i pf ps kw pos
  cases pf <;> try (simp [matE] at h; done)
  rename_i x p2
  cases ps <;> try (simp [matE] at h; done)
  rename_i p ps
  cases kw <;> try (simp [matE] at h; done)
  simp only [matE, Bool.and_eq_true, decide_eq_true_eq] at h
  obtain ⟨⟨⟨rfl, h1⟩, h2⟩, hcm⟩ := h
  have cm : f.free = false → X.calm = true := fun z => k.clm (by rw [z, Bool.or_false] at hcm; exact hcm)
  have hg := gl_of k.hs h1
  have hm := bt_gl (f := f) k
  have ha := hes X Wx sc _ k h2
  have hs := star1 (env := X.env) (ps := ps) (star_head h2)
  have hpl : (backTo pos (starEach ps X.env)).any (·.1) = false := by
    cases es with
    | nil => simp [matEs] at h2
    | cons e es => simp only [matEs, Bool.and_eq_true] at h2; exact (stars_of h2.2 pos).1
  have rd : ∀ {σ H Q}, tE X.K xr B Wx (evE b (callN T n) (.blt f es)) σ H Q → tCB (rB X.K xr B Wx (evB f)) (tA X.K xr B Wx (evEs b (callN T n) es)) σ H Q := fun {σ H Q} q => by
    simp only [tE, evE] at q
    exact bindA q fun m F env hq H ws vs S rv q => ⟨m, F, env, hq, σ, ws, S, rv, q⟩
  have bad : (∀ ws h, evB f ws h = .bad) → ∀ {σ H Q}, tE X.K xr B Wx (evE b (callN T n) (.blt f es)) σ H Q → tCB (fun _ _ _ => False) (tA X.K xr B Wx (evEs b (callN T n) es)) σ H Q := fun hb {σ H Q} q => by
    simp only [tE, evE] at q
    exact bindA q fun m F env hq H ws vs S rv q => by rw [hb] at q; exact q.elim
  have fB : ∀ {id : String} {v : Value}, (∀ ws h, evB f ws h = .bad) → bootBuiltins f.nm = some (.builtin id) → f.nm ≠ "__name__" → (f.nm == ("__debug__" : Str)) = false → SE X xr B Wx (evE b (callN T n) (.blt f es)) (.Call (.Name f.nm p2) (p :: ps) [] pos) := fun {id v} hb hv hn hd =>
    SE.of_plain ((pe_callB (id := id) (r := fun _ _ _ => False) (fun _ _ _ _ _ _ _ _ _ z => z.elim) hg hm hv ha hn hd hs hpl).weak fun σ H Q q => bad hb q) (fun _ => rfl) rfl
  have fT : ∀ {id : String}, (∀ ws h, evB f ws h = .bad) → bootBuiltins f.nm = some (.type id) → f.nm ≠ "__name__" → (f.nm == ("__debug__" : Str)) = false → SE X xr B Wx (evE b (callN T n) (.blt f es)) (.Call (.Name f.nm p2) (p :: ps) [] pos) := fun {id} hb hv hn hd =>
    SE.of_plain ((pe_callTy (T := id) (r := fun _ _ _ => False) (fun _ _ _ _ _ _ _ _ _ z => z.elim) hg hm hv ha hn hd hs hpl).weak fun σ H Q q => bad hb q) (fun _ => rfl) rfl
  cases f
  case len => exact SE.of_plain ((pe_callB cr_len hg hm (by decide +kernel) ha (by decide +kernel) (by decide +kernel) hs hpl).weak fun σ H Q q => rd q) (fun _ => rfl) rfl
  case tuple => exact SE.of_plain ((pe_callTy cr_tuple hg hm (by decide +kernel) ha (by decide +kernel) (by decide +kernel) hs hpl).weak fun σ H Q q => rd q) (fun _ => rfl) rfl
  case list => exact SE.of_plain ((pe_callTy cr_list hg hm (by decide +kernel) ha (by decide +kernel) (by decide +kernel) hs hpl).weak fun σ H Q q => rd q) (fun _ => rfl) rfl
  case listM => exact SE.of_plain ((pe_callTy cr_listM hg hm (by decide +kernel) ha (by decide +kernel) (by decide +kernel) hs hpl).weak fun σ H Q q => rd q) (fun _ => rfl) rfl
  case int => exact SE.of_plain ((pe_callTy cr_int hg hm (by decide +kernel) ha (by decide +kernel) (by decide +kernel) hs hpl).weak fun σ H Q q => rd q) (fun _ => rfl) rfl
  case sum => exact SE.of_plain ((pe_callB (cr_sumE (cm rfl)) hg hm (by decide +kernel) ha (by decide +kernel) (by decide +kernel) hs hpl).weak fun σ H Q q => rd q) (fun _ => rfl) rfl
  case sorted => exact SE.of_plain ((pe_callB (cr_sortedE k.hw (cm rfl) k.hu) hg hm (by decide +kernel) ha (by decide +kernel) (by decide +kernel) hs hpl).weak fun σ H Q q => rd q) (fun _ => rfl) rfl
  case str => exact SE.of_plain ((pe_callTy cr_strE hg hm (by decide +kernel) ha (by decide +kernel) (by decide +kernel) hs hpl).weak fun σ H Q q => rd q) (fun _ => rfl) rfl
  case max => exact SE.of_plain ((pe_callB (cr_maxE (cm rfl) k.hu) hg hm (by decide +kernel) ha (by decide +kernel) (by decide +kernel) hs hpl).weak fun σ H Q q => rd q) (fun _ => rfl) rfl
  case min => exact SE.of_plain ((pe_callB (cr_minE (cm rfl) k.hu) hg hm (by decide +kernel) ha (by decide +kernel) (by decide +kernel) hs hpl).weak fun σ H Q q => rd q) (fun _ => rfl) rfl
  case all => exact SE.of_plain ((pe_callB (cr_allE (cm rfl)) hg hm (by decide +kernel) ha (by decide +kernel) (by decide +kernel) hs hpl).weak fun σ H Q q => rd q) (fun _ => rfl) rfl
  case any => exact SE.of_plain ((pe_callB (cr_anyE (cm rfl)) hg hm (by decide +kernel) ha (by decide +kernel) (by decide +kernel) hs hpl).weak fun σ H Q q => rd q) (fun _ => rfl) rfl
  case repr => exact SE.of_plain ((pe_callB (cr_repr k.gd k.hu) hg hm (by decide +kernel) ha (by decide +kernel) (by decide +kernel) hs hpl).weak fun σ H Q q => rd q) (fun _ => rfl) rfl
  case max2 => exact fB (id := "max") (v := .none) (by intro ws h; rcases ws with _ | ⟨w, _ | ⟨w2, ws⟩⟩ <;> simp [evB]) (by decide +kernel) (by decide +kernel) (by decide +kernel)
  case min2 => exact fB (id := "min") (v := .none) (by intro ws h; rcases ws with _ | ⟨w, _ | ⟨w2, ws⟩⟩ <;> simp [evB]) (by decide +kernel) (by decide +kernel) (by decide +kernel)
theorem snd_sset {x : E} (hx : SndE M xr T n b B x) : SndE M xr T n b B (.sset x) := by
  intro X Wx sc p k h
  cases p <;> try (simp only [matE, Bool.false_eq_true] at h; done)
  rename_i pf ps kw pos
  cases pf <;> try (simp [matE] at h; done)
  rename_i n1 pos3
  rcases ps with _ | ⟨p, _ | ⟨p2, ps⟩⟩ <;> try (simp [matE] at h; done)
  cases p <;> try (simp [matE] at h; done)
  rename_i pf ps2 kw2 pos2
  cases pf <;> try (simp [matE] at h; done)
  rename_i n2 pos4
  rcases ps2 with _ | ⟨p, _ | ⟨p2, ps⟩⟩ <;> try (simp [matE] at h; done)
  cases kw <;> try (simp [matE] at h; done)
  cases kw2 <;> try (simp [matE] at h; done)
  simp only [matE, Bool.and_eq_true, decide_eq_true_eq] at h
  obtain ⟨⟨⟨⟨⟨⟨hcm, rfl⟩, rfl⟩, g1⟩, g2⟩, hn⟩, hm⟩ := h
  have a := (hx X Wx sc p k hm).pe
  have inner := pe_callTy (p := pos4) (pos := pos2) cr_setL (gl_of k.hs g2) (k.bl _ (by decide +kernel)) (by decide +kernel) (pa_cons a pa_nil (star1 hn)) (by decide +kernel) (by decide +kernel) (star1 hn) rfl
  refine SE.of_plain ((pe_callB (p := pos3) (pos := pos) (cr_sortedSet (k.clm hcm)) (gl_of k.hs g1) (k.bl _ (by decide +kernel)) (by decide +kernel) (pa_cons inner pa_nil rfl) (by decide +kernel) (by decide +kernel) rfl rfl).weak fun σ H Q q => ?_) (fun _ => rfl) rfl
  simp only [tE, evE] at q
  refine bind1 (ra := evE b (callN T n) x) q fun m F env hq H w v S r q => ?_
  split at q
  · rename_i ns e
    split at q
    · rename_i hl
      obtain ⟨a, rfl, sq⟩ := ints_nowL S.hr r e
      refine ⟨k.clm hcm, a, ns, rfl, sq, by omega, fun c p hc hp => ?_⟩
      have fp := S.hr.freeF hp
      have mp := S.hr.freeM hp
      refine ⟨p, _, c, rfl, upd_same, by omega, fun ms q2 asc mem len hn => ?_⟩
      have e2 : ms = sortU ns := asc_eq asc (asc_sortU ns) fun j => by rw [mem j, mem_sortU]; simp
      rw [e2]
      have hpq : q2 ≠ p := fun z => by rw [z, upd_same] at hn; cases hn
      have hq0 : H q2 = none := by rw [upd_ne hpq] at hn; exact hn
      have S1 := S.other (u := SetO X.w p (fun j => decide (j ∈ ns)) c) fp mp
      obtain ⟨S2, x2⟩ := S1.newF (u := .lst ((sortU ns).map V.int)) hn
      refine q _ _ _ ⟨.refl _, x2.sub, fun b o eb hb => ?_, fun _ a b => absurd a b, fun b hb hf hh => ?_⟩ S2 _ (.lst sq_new (dp_ints _))
      · rw [upd_ne (ne_of_none eb hq0), upd_ne (ne_of_none eb hp)]; exact eb
      · have : b ≠ q2 := fun z => hh (z ▸ hq0)
        rw [upd_ne this]; exact hf
    · exact q.elim
  · exact q.elim
theorem snd_mth {f : Mt} {o : E} {es : Es} (ho : SndE M xr T n b B o) (hes : SndEs M xr T n b B es) : SndE M xr T n b B (.mth f o es) := by
  intro X Wx sc p k h
  cases p <;> try (simp only [matE, Bool.false_eq_true] at h; done)
  rename_i pf ps kw pos
  cases pf <;> try (simp [matE] at h; done)
  rename_i po x ap
  cases ps <;> try (simp [matE] at h; done)
  rename_i p ps
  cases kw <;> try (simp [matE] at h; done)
  simp only [matE, Bool.and_eq_true, decide_eq_true_eq] at h
  obtain ⟨⟨⟨⟨⟨⟨hf, rfl⟩, h0⟩, hl⟩, hlen⟩, h1⟩, h2⟩ := h
  have a := (ho X Wx sc po k h1).pe
  have ha := hes X Wx sc _ k h2
  have hs := star1 (env := X.env) (ps := ps) (star_head h2)
  have sts := stars_of (env := X.env) h2 pos
  have hpl : (backTo pos (starEach ps X.env)).any (·.1) = false := by
    cases es with
    | nil => simp [matEs] at h2
    | cons e es => simp only [matEs, Bool.and_eq_true] at h2; exact (stars_of h2.2 pos).1
  have hbase : attributeBase po f.nm X.env (eval po X.env) = eval po X.env := by
    unfold attributeBase
    cases po <;> try rfl
    rename_i g as kws ps
    cases g <;> try rfl
    cases as <;> try rfl
    cases kws <;> try rfl
    simp [notCall0] at h0
  have hfew : ((backTo pos (starEach (p :: ps) X.env)).all (fun x => !x.1) && (backToKw pos (keywordEach [] X.env)).all (fun x => x.1.isSome) && decide ((p :: ps).length + ([] : List Keyword).length + (if ([] : List Keyword).isEmpty then 0 else 1) < 30)) = true := by
    rw [sts.2, Bool.true_and, Bool.and_eq_true]
    exact ⟨rfl, decide_eq_true (by simp; omega)⟩
  have rd : ∀ {σ H Q} {P : V → Hp → Prop}, tE X.K xr B Wx (evE b (callN T n) (.mth f o es)) σ H Q → (∀ m F env hq H w v, SR X.K B m F env hq σ H → WR X.K m F v w → recv f hq w = true → P v H) →
      tE X.K xr B Wx (evE b (callN T n) o) σ H fun v H1 => P v H1 ∧ tA X.K xr B Wx (evEs b (callN T n) es) σ H1 fun vs H2 => ∃ m F env h σ w ws, SR X.K B m F env h σ H2 ∧ WR X.K m F v w ∧ WRs X.K m F vs ws ∧ PostE X.K xr B Wx m F env σ H2 (evM f w ws h) Q := fun {σ H Q P} q hP => by
    obtain ⟨m, F, env, hq, S, q⟩ := q
    simp only [evE] at q
    refine ⟨m, F, env, hq, S, q.bind.mono fun w h1 m1 F1 H1 x1 S1 q v rv => ?_⟩
    split at q
    · rename_i hr
      refine ⟨hP _ _ _ _ _ _ _ S1 rv hr, m1, F1, env, h1, S1, q.bind.mono fun ws h2 m2 F2 H2 x2 S2 q us ru => ?_⟩
      exact ⟨m2, F2, env, h2, σ, w, ws, S2, wr_mono x2.ml x2.sub rv, ru, q⟩
    · exact q.elim
  have lst : ∀ {m : List Addr} {F : Hp} {env : Vars} {hq : Hq} {H : Hp} {σ : L2.St} {w : W} {v : V} {ds : List PyData}, SR X.K B m F env hq σ H → WR X.K m F v w → toDD hq w = some (.list ds) → ∃ a vs, v = .ref a ∧ SqL X.K H a vs := fun {m F env hq H σ w v ds} S rv e => by
    have d := toDD_dp S.hr rv e
    cases d with
    | lst h1 h2 => exact ⟨_, _, rfl, h1⟩
  cases f
  case count =>
    refine SE.of_plain ((pe_bm PySem.F.plainAttrs_list PySem.F.slot_list_count PySem.F.type_list_count (mt_cnt (xr := xr) (B := B) (Wx := Wx) k.hu) a ha hbase hfew hl hs hpl).weak fun σ H Q q => rd q fun m F env hq H w v S rv hr => ?_) (fun _ => rfl) rfl
    obtain ⟨ds, e⟩ := isLst_ok hr
    obtain ⟨c, vs, rfl, sq⟩ := lst S rv e
    exact .inl ⟨rfl, vs, sq⟩
  case index =>
    refine SE.of_plain ((pe_bm PySem.F.plainAttrs_list PySem.F.slot_list_index PySem.F.type_list_index (mt_idx (xr := xr) (B := B) (Wx := Wx) k.hu) a ha hbase hfew hl hs hpl).weak fun σ H Q q => rd q fun m F env hq H w v S rv hr => ?_) (fun _ => rfl) rfl
    obtain ⟨ds, e⟩ := isLst_ok hr
    obtain ⟨c, vs, rfl, sq⟩ := lst S rv e
    exact .inl ⟨rfl, vs, sq⟩
  case get =>
    refine SE.of_plain ((pe_dctm PySem.F.plainAttrs_dict PySem.F.slot_dict_get PySem.F.type_dict_get (mt_get (xr := xr) (B := B) (Wx := Wx) k.hw k.hu) a ha hbase hfew hl hs hpl).weak fun σ H Q q => rd q fun m F env hq H w v S rv hr => ?_) (fun _ => rfl) rfl
    obtain ⟨kvs, ed⟩ : ∃ kvs, dctOf hq w = some kvs := Option.isSome_iff_exists.mp hr
    obtain ⟨n, rfl, eo⟩ := dctOf_ok ed
    obtain ⟨a, em, rfl⟩ := rv
    obtain ⟨fa, es, eH, dk, nd, hz, hl⟩ := S.hr.ob n _ a eo em
    exact ⟨a, es, rfl, eH⟩
  case pop =>
    refine SE.of_plain ((pe_bm PySem.F.plainAttrs_list PySem.F.slot_list_pop PySem.F.type_list_pop (mt_popE (xr := xr) (B := B) (Wx := Wx)) a ha hbase hfew hl hs hpl).weak fun σ H Q q => rd q fun m F env hq H w v S rv hr => ?_) (fun _ => rfl) rfl
    obtain ⟨n, xs, rfl, eo⟩ : ∃ n xs, w = .l n ∧ hq[n]? = some (.lst xs) := by
      have hr : isL hq w = true := hr
      unfold isL at hr
      split at hr
      · rename_i n _
        split at hr
        · rename_i xs eo
          exact ⟨n, xs, rfl, eo⟩
        · cases hr
      · cases hr
    obtain ⟨al, em, rfl⟩ := rv
    obtain ⟨fa, vs, eH, dd⟩ := S.hr.ob n _ al eo em
    exact .inl ⟨rfl, vs, .of eH⟩
  case split =>
    refine SE.of_plain ((pe_bm PySem.F.plainAttrs_str PySem.F.slot_str_split PySem.F.type_str_split (mt_splE (xr := xr) (B := B) (Wx := Wx)) a ha hbase hfew hl hs hpl).weak fun σ H Q q => rd q fun m F env hq H w v S rv hr => ?_) (fun _ => rfl) rfl
    obtain ⟨z, rfl⟩ := isS_ok hr
    have rv : Dp X.K F v (.str z) := rv
    cases rv
    exact rfl
  case join =>
    refine SE.of_plain ((pe_bm PySem.F.plainAttrs_str PySem.F.slot_str_join PySem.F.type_str_join (mt_joiE (xr := xr) (B := B) (Wx := Wx)) a ha hbase hfew hl hs hpl).weak fun σ H Q q => rd q fun m F env hq H w v S rv hr => ?_) (fun _ => rfl) rfl
    obtain ⟨z, rfl⟩ := isS_ok hr
    have rv : Dp X.K F v (.str z) := rv
    cases rv
    exact rfl
  case extend => cases hf

theorem snd_call {f : Nat} {es : Es} (hb : b ∈ B.c) (hB : ∀ c ∈ B.c, c ≤ b) (hes : SndEs M xr T n b B es) : SndE M xr T n b B (.call f es) := by
  intro X Wx sc p k h
  cases p <;> try (simp only [matE, Bool.false_eq_true] at h; done)
  rename_i pf ps kw pos
  cases pf <;> try (simp [matE] at h; done)
  rename_i x p2
  cases ps <;> try (simp [matE] at h; done)
  rename_i p ps
  cases kw <;> try (simp [matE] at h; done)
  simp only [matE, Bool.and_eq_true] at h
  obtain ⟨⟨⟨⟨hcm, h0⟩, h1⟩, h2⟩, h3⟩ := h
  obtain ⟨a, fd, pr, hm, hk, hbd, hF⟩ := k.fns f x (of_decide_eq_true h0)
  have ha := hes X Wx sc _ k h3
  have hs := star1 (env := X.env) (ps := ps) (star_head h3)
  have hpl : (backTo pos (starEach ps X.env)).any (·.1) = false := by
    cases es with
    | nil => simp [matEs] at h3
    | cons e es => simp only [matEs, Bool.and_eq_true] at h3; exact (stars_of h3.2 pos).1
  refine SE.of_plain ((pe_callG (p := p2) (pos := pos) hF k.gd ((k.room hcm).mono (by omega)) (gl_of k.hs h1) hm hk hbd (fun σ => passAt k.tk σ) ha (plainN_of h2).1 hs hpl).weak fun σ H Q q => ?_) (fun _ => rfl) rfl
  simp only [tE, evE] at q
  refine bindA q fun m F env hq H ws vs S rv q => ?_
  cases e : callN T n b f ws hq with
  | bad => rw [e] at q; exact q.elim
  | ok w h' =>
    rw [e] at q
    have hfd : ∃ fd, T[f]? = some fd ∧ ws.length = fd.np := by
      cases n with
      | zero => simp [callN] at e
      | succ n =>
        simp only [callN] at e
        split at e
        · rename_i fd hfd
          refine ⟨fd, hfd, ?_⟩
          unfold runF at e
          split at e
          · assumption
          · cases e
        · cases e
    obtain ⟨fd, hfd, hl⟩ := hfd
    refine ⟨fd, hfd, by rw [rv.length]; exact hl, B.c, b, m, F, ws, hq, hb, hB, S.hr, rv, ?_⟩
    rw [e]
    exact fun v m' F' H' x r rw' => q m' F' H' x (S.ext r x) v rw'
  | ex c ds h' =>
    rw [e] at q
    have hfd : ∃ fd, T[f]? = some fd ∧ ws.length = fd.np := by
      cases n with
      | zero => simp [callN] at e
      | succ n =>
        simp only [callN] at e
        split at e
        · rename_i fd hfd
          refine ⟨fd, hfd, ?_⟩
          unfold runF at e
          split at e
          · assumption
          · cases e
        · cases e
    obtain ⟨fd, hfd, hl⟩ := hfd
    refine ⟨fd, hfd, by rw [rv.length]; exact hl, B.c, b, m, F, ws, hq, hb, hB, S.hr, rv, ?_⟩
    rw [e]
    exact fun m' F' H' cls dx x r y => q m' F' H' cls dx x r y
theorem snd_call0 {f : Nat} (hb : b ∈ B.c) (hB : ∀ c ∈ B.c, c ≤ b) : SndE M xr T n b B (.call0 f) := by
  intro X Wx sc p k h
  cases p <;> try (simp only [matE, Bool.false_eq_true] at h; done)
  rename_i pf ps kw pos
  cases pf <;> try (simp [matE] at h; done)
  rename_i x p2
  cases ps <;> try (simp [matE] at h; done)
  cases kw <;> try (simp [matE] at h; done)
  simp only [matE, Bool.and_eq_true] at h
  obtain ⟨⟨⟨hcm, h0⟩, h1⟩, h2⟩ := h
  obtain ⟨a, fd, pr, hm, hk, hbd, hF⟩ := k.fns f x (of_decide_eq_true h0)
  refine SE.of_plain ((pe_call0G (p := p2) (pos := pos) hF k.gd ((k.room hcm).mono (by omega)) (gl_of k.hs h1) hm hk hbd (fun σ => passAt k.tk σ) (plainN_of h2).1).weak fun σ H Q q => ?_) (fun _ => rfl) rfl
  obtain ⟨m, F, env, hq, S, q⟩ := q
  simp only [evE] at q
  have hfd : callN T n b f [] hq ≠ .bad → ∃ fd, T[f]? = some fd ∧ ([] : List W).length = fd.np := fun hz => by
    cases n with
    | zero => exact absurd (by simp [callN]) hz
    | succ n =>
      simp only [callN] at hz
      split at hz
      · rename_i fd hfd
        refine ⟨fd, hfd, ?_⟩
        unfold runF at hz
        split at hz
        · assumption
        · exact absurd rfl hz
      · exact absurd rfl hz
  cases e : callN T n b f [] hq with
  | bad => rw [e] at q; exact q.elim
  | ok w h' =>
    rw [e] at q
    obtain ⟨fd, hfd, hl⟩ := hfd (by rw [e]; exact fun z => nomatch z)
    refine ⟨fd, hfd, hl, B.c, b, m, F, [], hq, hb, hB, S.hr, .nil, ?_⟩
    rw [e]
    exact fun v m' F' H' x r rw' => q m' F' H' x (S.ext r x) v rw'
  | ex c ds h' =>
    rw [e] at q
    obtain ⟨fd, hfd, hl⟩ := hfd (by rw [e]; exact fun z => nomatch z)
    refine ⟨fd, hfd, hl, B.c, b, m, F, [], hq, hb, hB, S.hr, .nil, ?_⟩
    rw [e]
    exact fun m' F' H' cls dx x r y => q m' F' H' cls dx x r y
theorem snd_dnew : SndE M xr T n b B .dnew := by
  intro X Wx sc p k h
  cases p <;> try (simp only [matE, Bool.false_eq_true] at h; done)
  rename_i ks vs pos
  cases ks <;> try (simp [matE] at h; done)
  cases vs <;> try (simp [matE] at h; done)
  refine SE.of_plain ((pe_dnewG (pos := pos) k.hw).weak fun σ H Q q => ?_) (fun _ => rfl) rfl
  obtain ⟨m, F, env, hq, S, q⟩ := q
  simp only [evE] at q
  intro p hp hs
  exact PostE.newL (o := .dct []) q S hp ⟨S.hr.freeF hp, [], upd_same, .nil, by simp, hs, by simp⟩
theorem snd_dnewI : SndE M xr T n b B .dnewI := by
  intro X Wx sc p k h
  cases p <;> try (simp only [matE, Bool.false_eq_true] at h; done)
  rename_i ks vs pos
  cases ks <;> try (simp [matE] at h; done)
  cases vs <;> try (simp [matE] at h; done)
  refine SE.of_plain ((pe_dnewK (pos := pos)).weak fun σ H Q q => ?_) (fun _ => rfl) rfl
  obtain ⟨m, F, env, hq, S, q⟩ := q
  simp only [evE] at q
  intro p hp
  exact PostE.newL (o := .dki []) q S hp ⟨S.hr.freeF hp, [], upd_same, .nil, by simp⟩
end
end Ev

/-! EvX: range as an argument, isinstance, a module's whole number. -/
namespace Ev
open PySem PySem.Spec L2
variable [Wd]
section
variable {M : ME} {xr : XRel} {T : List FD} {n b : Nat} {B : BB}
theorem snd_bad : SndE M xr T n b B .bad := by
  intro X Wx sc p k h
  have hz : ∀ {σ H Q}, tE X.K xr B Wx (evE b (callN T n) .bad) σ H Q → False := fun {σ H Q} q => by
    obtain ⟨m, F, env, hq, S, q⟩ := q
    simp only [evE] at q
    exact q
  refine ⟨⟨fun pins s σ H Q I q => (hz q).elim⟩, fun _ => ⟨fun pins s σ H Q I q => ?_⟩, fun _ => ⟨fun w pins s σ H Q I q => ?_⟩⟩
  · obtain ⟨m, F, env, hq, S, q⟩ := q
    simp only [evE] at q
    exact q.elim
  · obtain ⟨m, F, env, hq, S, q⟩ := q
    simp only [evE] at q
    exact q.elim
theorem snd_glb (i : Int) : SndE M xr T n b B (.glb i) := by
  intro X Wx sc p k h
  cases p <;> simp only [matE, Bool.false_eq_true] at h
  rename_i x pos
  simp only [Bool.and_eq_true, List.contains_iff_mem] at h
  obtain ⟨t, hm⟩ := k.gls x i h.1.1
  refine SE.of_plain ((pe_glob (v := .int i) (gl_of k.hs h.1.2) hm ⟨t, rfl⟩ (plainN_of h.2).1).weak fun σ H Q q => ?_) (fun _ => rfl) rfl
  obtain ⟨m, F, env, hq, S, q⟩ := q
  simp only [evE] at q
  exact PostE.now q S (.int _)
theorem rgV_eq (n : Int) : rgV 0 n = ((List.range n.toNat).map fun i => ((i : Nat) : Int)).map V.int := by
  unfold rgV
  rw [List.map_map]
  simp
theorem dps_range {K : PySem.W.Frag} {F : Hp} (n : Int) : DpAll K F (rgV 0 n) ((List.range n.toNat).map fun i => PyData.int (i : Nat)) := by
  rw [rgV_eq]
  generalize List.range n.toNat = l
  induction l with
  | nil => exact .nil
  | cons x l ih => exact .cons (.int _) ih
theorem rg_RgOk {n : Int} (h : rgOk 0 n = true) : RgOk 0 n := by
  unfold rgOk at h
  have := of_decide_eq_true h
  unfold RgOk
  omega
theorem rgOf_ok {sc : Scope} {q pa : Expr} (h : rgOf sc q = some pa) : ∃ p pos, q = .Call (.Name "range" p) [pa] [] pos ∧ isGl sc "range" = true ∧ notStar pa = true := by
  unfold rgOf at h
  split at h
  · split at h
    · rename_i h'
      obtain ⟨rfl, h2, h3⟩ := h'
      cases h
      exact ⟨_, _, rfl, h2, h3⟩
    · cases h
  · cases h
theorem snd_trg {t : Bool} {a : E} (ha : SndE M xr T n b B a) : SndE M xr T n b B (.trg t a) := by
  intro X Wx sc p k h
  cases p <;> try (simp only [matE, Bool.false_eq_true] at h; done)
  rename_i pf ps kw pos
  cases pf <;> try (simp [matE] at h; done)
  rename_i x p2
  rcases ps with _ | ⟨q, _ | ⟨p2, ps⟩⟩ <;> try (simp [matE] at h; done)
  cases kw <;> try (simp [matE] at h; done)
  simp only [matE, Bool.and_eq_true, decide_eq_true_eq] at h
  obtain ⟨⟨⟨⟨hcm, rfl⟩, h1⟩, h2⟩, h3⟩ := h
  split at h3
  · rename_i pa eq
    obtain ⟨p3, pos3, rfl, g, ns⟩ := rgOf_ok eq
    have inner := prg_1 (p := p3) (pos := pos3) (gl_of k.hs g) (k.bl _ (by decide +kernel)) (ha X Wx sc pa k h3).pe (star1 ns)
    have rd : ∀ {σ H Q}, tE X.K xr B Wx (evE b (callN T n) (.trg t a)) σ H Q → tRg1 (tE X.K xr B Wx (evE b (callN T n) a)) σ H fun i j H1 => RgOk i j ∧ ∀ q, H1 q = none → Q (.ref q) (upd H1 q (if t then .tup (rgV i j) else .lst (rgV i j))) := fun {σ H Q} q => by
      simp only [tE, evE] at q
      refine bind1 (ra := evE b (callN T n) a) q fun m F env hq H w v S r q => ?_
      split at q
      · rename_i nn
        split at q
        · rename_i hr
          have r : Dp X.K F v (.int nn) := r
          cases r
          refine ⟨nn, rfl, rg_RgOk hr, fun p hp => ?_⟩
          cases t
          · exact PostE.newF q S hp (.lst sq_new (dps_mono (HpLe.upd (S.hr.freeF hp)) _ _ (dps_range nn)))
          · exact PostE.newF q S hp (.tup st_new (dps_mono (HpLe.upd (S.hr.freeF hp)) _ _ (dps_range nn)))
        · exact q.elim
      · exact q.elim
    cases t
    · exact SE.of_plain ((pe_listRg (p := p2) (pos := pos) (k.clm hcm) (gl_of k.hs h1) (k.bl _ (by decide +kernel)) inner (star1 h2)).weak fun σ H Q q => rd q) (fun _ => rfl) rfl
    · exact SE.of_plain ((pe_tupRg (p := p2) (pos := pos) (k.clm hcm) (gl_of k.hs h1) (k.bl _ (by decide +kernel)) inner (star1 h2)).weak fun σ H Q q => rd q) (fun _ => rfl) rfl
  · cases h3

theorem now_reads {X : Cx} {pins : List (Addr × Obj)} {s : Shared} {σ : L2.St} {m : List Addr} {F H : Hp} {h : Hq} (I : Inv X pins σ H s) (S : HR X.K B.c m F h H) {w : W} {v : V} {u : Value} {d : PyData} (r : WR X.K m F v w) (e : toD h w = some d) (rv : RelV v u) : ∃ as, Reads s.heap u d as :=
  Dp.reads I d v u ((now_of S r e).dp S.sub) rv
def Ity.tn : Ity → String
  | .int => "int" | .bool => "bool" | .str => "str" | .tuple => "tuple"
theorem cr_isa {X : Cx} {Wx : WX} (c : Ity) : CallR X (.builtin "isinstance") (fun xs H Q => ∃ m F env h σ w v x, SR X.K B m F env h σ H ∧ WR X.K m F v w ∧ xs = [v, .ty c.tn] ∧ toD h w = some x ∧ PostE X.K xr B Wx m F env σ H (.ok (.d (.bool (isaD c x))) h) Q) := by
  intro pins s σ H xs us Q I rs hq
  obtain ⟨m, F, env, h, σ', w, v, x, S, r, rfl, e, p⟩ := hq
  obtain ⟨u1, u2, rfl, r1, r2⟩ := vals2 rs
  obtain ⟨as, rd⟩ := now_reads I S.hr r e r1
  have q := PostE.now p S (.bl _)
  cases c
  · cases (show u2 = Value.type "int" from r2)
    exact PySem.W.isinstance_int_data rd fun tk _ => ⟨.bl _, H, I.tok tk, (by cases x <;> rfl), q⟩
  · cases (show u2 = Value.type "bool" from r2)
    exact PySem.W.isinstance_bool_data rd fun tk _ => ⟨.bl _, H, I.tok tk, (by cases x <;> rfl), q⟩
  · cases (show u2 = Value.type "str" from r2)
    exact PySem.W.isinstance_str_data rd fun tk _ => ⟨.bl _, H, I.tok tk, (by cases x <;> rfl), q⟩
  · cases (show u2 = Value.type "tuple" from r2)
    exact PySem.W.isinstance_tuple_data rd fun tk _ => ⟨.bl _, H, I.tok tk, (by cases x <;> rfl), q⟩
theorem snd_isa {c : Ity} {a : E} (ha : SndE M xr T n b B a) : SndE M xr T n b B (.isa c a) := by
  intro X Wx sc p k h
  cases p <;> try (simp only [matE, Bool.false_eq_true] at h; done)
  rename_i pf ps kw pos
  cases pf <;> try (simp [matE] at h; done)
  rename_i x p2
  rcases ps with _ | ⟨pa, _ | ⟨q, _ | ⟨p3, ps⟩⟩⟩ <;> try (simp [matE] at h; done)
  cases kw <;> try (simp [matE] at h; done)
  simp only [matE, Bool.and_eq_true, decide_eq_true_eq] at h
  obtain ⟨⟨⟨⟨⟨rfl, h1⟩, h2⟩, h3⟩, h4⟩, h5⟩ := h
  cases q <;> simp only [isTy, Bool.false_eq_true, Bool.and_eq_true, decide_eq_true_eq] at h4
  rename_i y p3
  obtain ⟨rfl, g⟩ := h4
  have pt : PE X (.Name c.nm p3) (tC (.ty c.tn)) := by
    cases c
    · exact pe_bltn (gl_of k.hs g) (k.bl _ (by decide +kernel)) (u := .type "int") (by decide +kernel) rfl (by decide +kernel) (by decide +kernel)
    · exact pe_bltn (gl_of k.hs g) (k.bl _ (by decide +kernel)) (u := .type "bool") (by decide +kernel) rfl (by decide +kernel) (by decide +kernel)
    · exact pe_bltn (gl_of k.hs g) (k.bl _ (by decide +kernel)) (u := .type "str") (by decide +kernel) rfl (by decide +kernel) (by decide +kernel)
    · exact pe_bltn (gl_of k.hs g) (k.bl _ (by decide +kernel)) (u := .type "tuple") (by decide +kernel) rfl (by decide +kernel) (by decide +kernel)
  refine SE.of_plain ((pe_callB (p := p2) (pos := pos) (cr_isa (xr := xr) (B := B) (Wx := Wx) c) (gl_of k.hs h1) (k.bl _ (by decide +kernel)) (by decide +kernel) (pa_cons (ha X Wx sc pa k h5).pe (pa_cons pt pa_nil (star1 h3)) (star1 h2)) (by decide +kernel) (by decide +kernel) (star1 h2) (by rw [star1 h3]; rfl)).weak fun σ H Q q => ?_) (fun _ => rfl) rfl
  simp only [tE, evE] at q
  refine bind1 (ra := evE b (callN T n) a) q fun m F env hq H w v S r q => ?_
  split at q
  · rename_i d e
    exact ⟨m, F, env, hq, σ, w, v, d, S, r, rfl, e, q⟩
  · exact q.elim
/-! ### {..}.get(k, d) -/
theorem pe_intC {X : Cx} {v : Expr} {i : Int} (h : intC v = some i) : PE X v (tC (.int i)) := by
  unfold intC at h
  split at h
  · cases h
    exact pe_int
  · cases h
    exact (pe_un un_neg pe_int).weak fun σ H Q q => ⟨_, rfl, q⟩
  · cases h
def kvT (kvs : List (Str × Int)) : List (TE × TE) := kvs.map fun p => (tC (.str p.1), tC (.int p.2))
theorem pps_kv {X : Cx} {pos : Pos} : ∀ {kvs : List (Str × Int)} {ks : List (Option Expr)} {vs : List Expr}, matKV kvs ks vs = true → PPs X pos ks vs (kvT kvs) ∧ ks.all (·.isSome) = true ∧ ks.length = vs.length ∧ ks.length = kvs.length
  | [], [], [], _ => ⟨pps_nil, rfl, rfl, rfl⟩
  | [], [], _ :: _, h => by simp [matKV] at h
  | [], _ :: _, _, h => by simp [matKV] at h
  | _ :: _, [], _, h => by simp [matKV] at h
  | _ :: _, _ :: _, [], h => by simp [matKV] at h
  | (s, i) :: r, k :: ks, v :: vs, h => by
    simp only [matKV, Bool.and_eq_true, decide_eq_true_eq] at h
    obtain ⟨⟨h1, h2⟩, h3⟩ := h
    obtain ⟨a, b, c, d⟩ := pps_kv (X := X) (pos := pos) h3
    unfold keyIsC at h1
    split at h1
    · simp only [decide_eq_true_eq] at h1
      subst h1
      exact ⟨pps_cons pe_str (pe_intC h2) a, by simp [b], by simp [c], by simp [d]⟩
    · cases h1
def kvV (kvs : List (Str × Int)) : List (Key × V) := kvs.map fun p => (Sum.inr p.1, V.int p.2)
theorem tPairs_kv {σ : L2.St} {H : Hp} : ∀ {kvs : List (Str × Int)} {Q : List (V × V) → Hp → Prop}, Q ((kvV kvs).map fun kv => (kV kv.1, kv.2)) H → tPairs (kvT kvs) σ H Q
  | [], _, h => h
  | p :: r, Q, h => tPairs_kv (kvs := r) (Q := fun ps H3 => Q ((V.str p.1, V.int p.2) :: ps) H3) h
theorem look_merge (s : Str) : ∀ (kvs : List (Str × Int)) (acc : List (Key × V)) (o : Option Int), valV acc (Sum.inr s) = o.map V.int → valV (mergeK acc (kvV kvs)) (Sum.inr s) = (kvs.foldl (fun acc p => if s = p.1 then some p.2 else acc) o).map V.int
  | [], acc, o, h => h
  | p :: r, acc, o, h => by
    show valV (mergeK (putK acc (Sum.inr p.1) (V.int p.2)) (kvV r)) (Sum.inr s) = _
    rw [List.foldl_cons]
    refine look_merge s r _ _ ?_
    rw [valV_put]
    by_cases e : s = p.1
    · subst e; simp
    · have : ¬ (Sum.inr s : Key) = Sum.inr p.1 := fun z => e (Sum.inr.inj z)
      simp only [if_neg this, if_neg e]
      exact h
theorem PostG.shift {α : Type} {K : PySem.W.Frag} {Wx : WX} {m m1 : List Addr} {F F1 H H1 : Hp} {env : Vars} {σ : L2.St} {r : R α} {P : α → Hq → List Addr → Hp → Hp → Prop} (p : PostG K xr B Wx m F env σ H r P) (x : Ext m F H m1 F1 H1) : PostG K xr B Wx m1 F1 env σ H1 r P := by
  cases r with
  | ok a h => exact fun m2 F2 H2 e => p m2 F2 H2 (x.trans e)
  | ex c ds h => exact fun m2 F2 H2 cls dx e => p m2 F2 H2 cls dx (x.trans e)
  | bad => exact p
theorem snd_dlg {kvs : List (Str × Int)} {e1 e2 : E} (h1 : SndE M xr T n b B e1) (h2 : SndE M xr T n b B e2) : SndE M xr T n b B (.dlg kvs e1 e2) := by
  intro X Wx sc p k h
  cases p <;> try (simp only [matE, Bool.false_eq_true] at h; done)
  rename_i pf ps kw cp
  cases pf <;> try (simp [matE] at h; done)
  rename_i po x ap
  rcases ps with _ | ⟨pk, _ | ⟨pd, _ | ⟨p3, ps⟩⟩⟩ <;> try (simp [matE] at h; done)
  cases kw <;> try (simp [matE] at h; done)
  simp only [matE, Bool.and_eq_true, decide_eq_true_eq] at h
  obtain ⟨⟨⟨⟨⟨⟨rfl, hl⟩, n1⟩, n2⟩, hd⟩, m1⟩, m2⟩ := h
  cases po <;> simp only [dictOf, Bool.false_eq_true] at hd
  rename_i ks vs dp
  simp only [Bool.and_eq_true, decide_eq_true_eq] at hd
  obtain ⟨⟨hk, hlen⟩, h15⟩ := hd
  obtain ⟨pp, hall, hlv, _⟩ := pps_kv (X := X) (pos := dp) hk
  have hs1 : starEach [pk, pd] X.env = [(false, eval pk X.env), (false, eval pd X.env)] := by rw [star1 n1, star1 n2]; rfl
  have disp := pe_disp pp hall hlv (by intro z; rw [z] at hlen; simp at hlen) h15
  have m : M2 X (.Dict ks vs dp) "get" ap pk pd cp := ⟨rfl, by rw [hs1]; rfl, hl, by rw [hs1]; rfl⟩
  have hu : X.A.units + 1 < cLine := by have := k.hu; omega
  refine SE.of_plain ((pe_dget2 hu disp (h1 X Wx sc pk k m1).pe (h2 X Wx sc pd k m2).pe m).weak fun σ H Q q => ?_) (fun _ => rfl) rfl
  intro p hp
  refine tPairs_kv ⟨upd_same, kvV kvs, rfl, ?_, p, rfl, .inl ⟨_, .inl upd_same⟩, ?_⟩
  · obtain ⟨_, _, _, e⟩ := pps_kv (X := X) (pos := dp) hk
    unfold kvV
    rw [List.length_map, ← e]
    exact h15
  obtain ⟨m0, F, env, hq, S, q⟩ := q
  simp only [evE] at q
  have uu : upd (upd H p (.dK [])) p (.dK (mergeK [] (kvV kvs))) = upd H p (.dK (mergeK [] (kvV kvs))) := by
    funext a
    unfold upd
    split <;> rfl
  rw [uu]
  have fp := S.hr.freeF hp
  have mp := S.hr.freeM hp
  have S1 : SR X.K B m0 F env hq σ (upd H p (.dK (mergeK [] (kvV kvs)))) := ⟨S.hr.other fp mp, S.el, S.var, S.exv⟩
  have x0 : Ext m0 F H m0 F (upd H p (.dK (mergeK [] (kvV kvs)))) := ⟨.refl _, .refl _, fun a o e _ => by
    rw [upd_ne (fun z => by rw [z, hp] at e; cases e)]; exact e, fun a h g => absurd h g, fun _ _ h _ => h⟩
  have q := PostG.shift q x0
  refine ⟨m0, F, env, hq, S1, q.bind.mono fun w1 hq1 m1 F1 H1 x1 S1 qa v1 r1 => ⟨m1, F1, env, hq1, S1, qa.bind.mono fun w2 hq2 m2 F2 H2 x2 S2 q v2 r2 => ?_⟩⟩
  have hd1 : H1 p = some (.dK (mergeK [] (kvV kvs))) := x1.frm p _ upd_same mp
  have mp1 : p ∉ m1 := fun z => by
    have := x1.new p z mp
    rw [upd_same] at this
    cases this
  have hd2 : H2 p = some (.dK (mergeK [] (kvV kvs))) := x2.frm p _ hd1 mp1
  cases w1 with
  | l _ => exact q.elim
  | x _ _ => exact q.elim
  | d dd =>
    cases dd
    case str s =>
      have r1 : Dp X.K F1 v1 (.str s) := r1
      cases r1
      refine ⟨_, DGet.k (k := Sum.inr s) hd2, ?_⟩
      rw [look_merge s kvs [] none rfl]
      simp only [dlook] at q
      cases hh : kvs.foldl (fun acc p => if s = p.1 then some p.2 else acc) none with
      | some i => rw [hh] at q; exact PostE.now q S2 (.int _)
      | none => rw [hh] at q; exact PostE.now q S2 r2
    all_goals exact q.elim
end
end Ev

/-! EvQ: texts of the top; isinstance of an exception in hand, its fields. -/
namespace Ev
open PySem PySem.Spec PyProof.Rows L2
variable [Wd]
/-- isinstance(e, C), e the exception that the suite holds -/
theorem call_isX {X : Cx} {a D : Addr} {dx : Option Addr} {oe : Obj} {pn : List (Addr × Obj)} (C : L2.ExcC X.K D) (hz : Zc (.ref D) dx oe) (hf : ∃ vs, oe.data = .fields vs) : CallR (X.suite a ((a, oe) :: pn)) (.builtin "isinstance") (fun xs H Q => ∃ (c : V) (cv : Value) (b : Bool), xs = [.ref a, c] ∧ (∀ u, RelV c u → u = cv) ∧ PySem.W.kitOne X.K (.ref D) cv = some b ∧ (∀ dd, dx = some dd → ∃ fs, H dd = some (.xd fs)) ∧ Q (.bl b) H) := by
  intro pins s σ H xs us Q I r h
  obtain ⟨c, cv, b, rfl, hcv, e, hdx, q⟩ := h
  cases r with
  | cons rx rr =>
    cases rr with
    | cons rt rr =>
      cases rr
      cases rx
      have ec := hcv _ rt
      subst ec
      obtain ⟨hget, _⟩ := I.pin (a, oe) (List.mem_append.mpr (.inl List.mem_cons_self))
      obtain ⟨vs, hv⟩ := hf
      obtain ⟨od, J⟩ : ∃ od, PySem.W.InstAt s.heap a oe D od := by
        obtain ⟨oc, od, oda, osl⟩ := oe
        obtain ⟨h1, h2⟩ := hz
        dsimp only at h1 h2 hv
        subst h1 h2 hv
        cases od with
        | none => exact ⟨none, hget, rfl, rfl, trivial⟩
        | some dd =>
          obtain ⟨fs, e⟩ := hdx dd rfl
          have hx : ObjOk X.prog X.w H s.heap dd (.xd fs) := I.hok dd _ e
          obtain ⟨mA, hns, hr⟩ := hx
          obtain ⟨od, ho, hl⟩ := lookIn_ns hns
          exact ⟨some od, hget, rfl, rfl, ho⟩
      have hcl : (PySem.W.clsIn X.K D).isSome = true := by
        have := C.hd
        unfold PySem.W.hasDictIn at this
        cases q : PySem.W.clsIn X.K D with
        | none => rw [q] at this; simp at this
        | some _ => rfl
      exact PySem.W.kia_one (PySem.W.kitx_exc (od := od) hcl C.hg C.hk C.hs C.ha C.hn C.ht C.hm) I.kIn J e (fun z => nomatch z) fun tk => ⟨.bl b, H, I.kept (t' := tk) fun _ _ z => z, rfl, q⟩
section
variable {M : ME} {xr : XRel} {T : List FD} {n b : Nat} {B : BB}
theorem snd_glbS (z : Str) : SndE M xr T n b B (.glbS z) := by
  intro X Wx sc p k h
  cases p <;> simp only [matE, Bool.false_eq_true] at h
  rename_i x pos
  simp only [Bool.and_eq_true, List.contains_iff_mem] at h
  obtain ⟨t, hm⟩ := k.glz x z h.1.1
  refine SE.of_plain ((pe_glob (v := .str z) (gl_of k.hs h.1.2) hm ⟨t, rfl⟩ (plainN_of h.2).1).weak fun σ H Q q => ?_) (fun _ => rfl) rfl
  obtain ⟨m, F, env, hq, S, q⟩ := q
  simp only [evE] at q
  exact PostE.now q S (.str _)
theorem dps_strs {K : PySem.W.Frag} {F : Hp} : ∀ zs : List Str, DpAll K F (zs.map V.str) (zs.map PyData.str)
  | [] => .nil
  | z :: zs => .cons (.str z) (dps_strs zs)
theorem snd_glbT (zs : List Str) : SndE M xr T n b B (.glbT zs) := by
  intro X Wx sc p k h
  cases p <;> simp only [matE, Bool.false_eq_true] at h
  rename_i x pos
  simp only [Bool.and_eq_true, List.contains_iff_mem] at h
  obtain ⟨a, hm, ht⟩ := k.glt x zs h.1.1
  refine SE.of_plain ((pe_glob (v := .ref a) (gl_of k.hs h.1.2) hm rfl (plainN_of h.2).1).weak fun σ H Q q => ?_) (fun _ => rfl) rfl
  obtain ⟨m, F, env, hq, S, q⟩ := q
  simp only [evE] at q
  exact PostE.now q S (.tup (.inr ht) (dps_strs zs))
theorem clsAt_ok {M : ME} {z : Str} {cs : List Nat} (h : clsAt M z cs = true) : ∃ (j : Nat) (e : CDef), M.cls[j]? = some e ∧ e.nm = z ∧ e.subs = cs := by
  unfold clsAt at h
  obtain ⟨e, he, h⟩ := List.any_eq_true.mp h
  simp only [Bool.and_eq_true, decide_eq_true_eq] at h
  obtain ⟨j, hj⟩ := List.getElem?_of_mem he
  exact ⟨j, e, hj, h.1, h.2⟩
/-- the slot of the exception in hand -/
theorem exSlot {X : Cx} {Wx : WX} {sc : Scope} {i : Nat} (k : XOk X Wx M xr T n B sc) (h : M.xs = some i) : ∃ e, B.ex = some e ∧ e.i = i ∧ ExOk X M.cls e := by
  have q := k.xs
  rw [h] at q
  cases q2 : B.ex with
  | none => rw [q2] at q; cases q
  | some e =>
    rw [q2] at q
    exact ⟨e, rfl, (Option.some.inj q).symm, k.ex e q2⟩
/-- a class's name, as a value -/
theorem pe_cls {X : Cx} {Wx : WX} {sc : Scope} (k : XOk X Wx M xr T n B sc) {j : Nat} {e : CDef} (he : M.cls[j]? = some e) {pos : Pos} (hg : Gl X e.nm) (hn : (e.nm == ("__debug__" : Str)) = false) : ∃ v : V, PE X (.Name e.nm pos) (tC v) ∧ ∀ u, RelV v u → u = cV X.K e := by
  cases ho : e.own with
  | true =>
    refine ⟨.ref (cA X.K e), pe_glob hg (k.cls j e he ho).gC rfl hn, fun u r => ?_⟩
    cases r
    simp [cV, ho]
  | false =>
    obtain ⟨h1, h2⟩ := k.bcl e (List.mem_of_getElem? he) ho
    refine ⟨.ty "ValueError", pe_bltn (u := .type "ValueError") hg h1 (by rw [h2]; decide +kernel) rfl (by rw [h2]; decide +kernel) hn, fun u r => ?_⟩
    have r : u = .type "ValueError" := r
    simp [cV, ho, r]
theorem snd_exis (i : Nat) (cs : List Nat) : SndE M xr T n b B (.exis i cs) := by
  intro X Wx sc p k h
  cases p <;> try (simp only [matE, Bool.false_eq_true] at h; done)
  rename_i pf ps kw pos
  cases pf <;> try (simp [matE] at h; done)
  rename_i x p2
  rcases ps with _ | ⟨q1, _ | ⟨q2, _ | ⟨q3, ps⟩⟩⟩ <;> try (simp [matE] at h; done)
  cases q1 <;> try (simp [matE] at h; done)
  rename_i y py
  cases q2 <;> try (simp [matE] at h; done)
  rename_i z pz
  cases kw <;> try (simp [matE] at h; done)
  simp only [matE, Bool.and_eq_true, decide_eq_true_eq] at h
  obtain ⟨⟨⟨⟨⟨⟨⟨⟨hxs, rfl⟩, g1⟩, a1⟩, v1⟩, n1⟩, cl⟩, g2⟩, n2⟩ := h
  obtain ⟨e, he, hei, X0, oe, pn, cls, dx, hX, hz, hf, hR⟩ := exSlot k hxs
  obtain ⟨j, ec, hj, hnm, hsub⟩ := clsAt_ok cl
  obtain ⟨m4, m5, _⟩ := plainN_of n1
  obtain ⟨m6, _, _⟩ := plainN_of n2
  subst hnm
  obtain ⟨v, pv, hv⟩ := pe_cls k hj (pos := pz) (gl_of k.hs g2) m6
  have px : PE X (.Name y py) (tVar i) := pe_var (i := i) (by rw [k.hN]; exact of_decide_eq_true a1) (by rw [k.hs]; exact vis_of v1) m4 m5
  -- the class of the exception: told by R, whatever F
  have call : ∀ {D : Addr} {d : CDef} {c : Nat}, cls = .ref D → M.cls[c]? = some d → d.own = true → D = cA X.K d → CallR X (.builtin "isinstance") (fun xs H Q => ∃ (cc : V) (cv : Value) (b : Bool), xs = [.ref e.a, cc] ∧ (∀ u, RelV cc u → u = cv) ∧ PySem.W.kitOne X.K (.ref D) cv = some b ∧ (∀ dd, dx = some dd → ∃ fs, H dd = some (.xd fs)) ∧ Q (.bl b) H) := by
    intro D d c hcls hd ho hD
    have C := (k.cls c d hd ho).iC
    rw [← hD] at C
    subst hX
    exact call_isX (X := X0) C (hcls ▸ hz) hf
  by_cases hex : ∃ F, e.R F
  · obtain ⟨F0, r0⟩ := hex
    obtain ⟨d, hd, ho, hcls, _, _⟩ := hR F0 r0
    have C := call hcls hd ho rfl
    refine SE.of_plain ((pe_callB C (gl_of k.hs g1) (k.bl _ (by decide +kernel)) (by decide +kernel) (pa_cons px (pa_cons pv pa_nil)) (by decide +kernel) (by decide +kernel) rfl rfl).weak fun σ H Q q => ?_) (fun _ => rfl) rfl
    obtain ⟨m, F, env, hq, S, q⟩ := q
    obtain ⟨ev, es, er⟩ := S.exv e he
    rw [hei] at ev es
    simp only [evE, ev] at q
    refine ⟨.ref e.a, es, ?_⟩
    refine ⟨v, cV X.K ec, ec.subs.contains e.n, rfl, hv, ?_, fun dd hdd => ?_, ?_⟩
    · exact (k.cls e.n d hd ho).kit j ec hj
    · obtain ⟨d2, _, _, _, _, alt⟩ := hR F er
      rcases alt with ⟨_, z⟩ | ⟨a, vs, z, hF, _⟩
      · rw [z] at hdd; cases hdd
      · rw [z] at hdd; cases hdd
        exact ⟨_, S.hr.sub _ _ hF⟩
    · rw [hsub]
      exact PostE.now q S (.bl _)
  · refine SE.of_plain ((pe_callB (id := "isinstance") (r := fun _ _ _ => False) (fun _ _ _ _ _ _ _ _ _ z => z.elim) (gl_of k.hs g1) (k.bl _ (by decide +kernel)) (by decide +kernel) (pa_cons px (pa_cons pv pa_nil)) (by decide +kernel) (by decide +kernel) rfl rfl).weak fun σ H Q q => ?_) (fun _ => rfl) rfl
    obtain ⟨m, F, env, hq, S, q⟩ := q
    obtain ⟨ev, es, er⟩ := S.exv e he
    exact absurd ⟨F, er⟩ hex
theorem zip_at {fs : List Str} {vs : List V} {ds : List PyData} {K : PySem.W.Frag} {F : Hp} {j : Nat} {f : Str} {d : PyData} (h : DpAll K F vs ds) (hl : ds.length = fs.length) (hn : fs.Nodup) (e1 : fs[j]? = some f) (e2 : ds[j]? = some d) : ∃ v, (fs.zip vs).lookup f = some v ∧ Dp K F v d := by
  obtain ⟨v, e3, r⟩ := h.get e2
  refine ⟨v, ?_, r⟩
  clear h hl e2 r
  induction fs generalizing vs j with
  | nil => simp at e1
  | cons g fs ih =>
    cases vs with
    | nil => simp at e3
    | cons u vs =>
      have hn := List.nodup_cons.mp hn
      cases j with
      | zero =>
        simp at e1 e3
        subst e1 e3
        simp [List.zip_cons_cons, List.lookup]
      | succ j =>
        have e1' : fs[j]? = some f := by simpa using e1
        have e3' : vs[j]? = some v := by simpa using e3
        have ne : f ≠ g := fun z => hn.1 (z ▸ List.mem_of_getElem? e1')
        have : (f == g) = false := by simp [ne]
        simp only [List.zip_cons_cons, List.lookup, this]
        exact ih hn.2 e1' e3'
theorem snd_exfld (i : Nat) (js : List (Nat × Nat)) : SndE M xr T n b B (.exfld i js) := by
  intro X Wx sc p k h
  cases p <;> try (simp only [matE, Bool.false_eq_true] at h; done)
  rename_i pf f pos
  cases pf <;> try (simp [matE] at h; done)
  rename_i y py
  simp only [matE, Bool.and_eq_true, decide_eq_true_eq, List.all_eq_true] at h
  obtain ⟨⟨⟨⟨hxs, a1⟩, v1⟩, n1⟩, hjs⟩ := h
  obtain ⟨e, he, hei, X0, oe, pn, cls, dx, hX, hz, hf, hR⟩ := exSlot k hxs
  obtain ⟨m4, m5, _⟩ := plainN_of n1
  have px : PE X (.Name y py) (tVar i) := pe_var (i := i) (by rw [k.hN]; exact of_decide_eq_true a1) (by rw [k.hs]; exact vis_of v1) m4 m5
  by_cases hex : ∃ F j x, e.R F ∧ js.lookup e.n = some j ∧ e.ds[j]? = some x
  · obtain ⟨F0, j, x, r0, hj, hx⟩ := hex
    obtain ⟨d, hd, ho, hcls, hdl, alt0⟩ := hR F0 r0
    have C := k.cls e.n d hd ho
    have mem : (e.n, j) ∈ js := by
      clear hjs
      induction js with
      | nil => cases hj
      | cons q js ih =>
        obtain ⟨q1, q2⟩ := q
        by_cases ee : e.n = q1
        · subst ee
          simp [List.lookup] at hj
          subst hj
          exact List.mem_cons_self
        · have : (e.n == q1) = false := by simp [ee]
          simp only [List.lookup, this] at hj
          exact List.mem_cons_of_mem _ (ih hj)
    have hfj : d.fl[j]? = some f := by
      have := hjs _ mem
      rw [hd] at this
      exact of_decide_eq_true this
    have hno := C.fF f (List.mem_of_getElem? hfj)
    have pp : PE X (.Attribute (.Name y py) f pos) (tXf e.a cls dx (cA X.K d) f (tVar i)) := by
      subst hX
      exact pe_xf (X := X0) (C := cA X0.K d) ⟨C.iC.hg, C.iC.hk, C.iC.hs, C.iC.hd⟩ hno hz hf px
    refine SE.of_plain (pp.weak fun σ H Q q => ?_) (fun _ => rfl) rfl
    obtain ⟨m, F, env, hq, S, q⟩ := q
    obtain ⟨ev, es, er⟩ := S.exv e he
    rw [hei] at ev es
    simp only [evE, ev, hj, Option.bind_some, hx] at q
    refine ⟨.ref e.a, es, rfl, hcls, ?_⟩
    obtain ⟨d2, hd2, _, _, hdl2, alt⟩ := hR F er
    rw [hd] at hd2
    cases hd2
    rcases alt with ⟨z, _⟩ | ⟨a, vs, z, hF, hD⟩
    · rw [z] at hfj; simp at hfj
    · obtain ⟨v, lv, rv⟩ := zip_at hD hdl2 C.fN hfj hx
      exact ⟨a, _, v, z, S.hr.sub _ _ hF, lv, PostE.now q S rv⟩
  · refine SE.of_plain (PE.weak (t := fun _ _ _ => False) ⟨fun _ _ _ _ _ _ z => z.elim⟩ fun σ H Q q => ?_) (fun _ => rfl) rfl
    obtain ⟨m, F, env, hq, S, q⟩ := q
    obtain ⟨ev, es, er⟩ := S.exv e he
    rw [hei] at ev
    simp only [evE, ev] at q
    cases hj : js.lookup e.n with
    | none => rw [hj] at q; exact q.elim
    | some j =>
      rw [hj, Option.bind_some] at q
      cases hx : e.ds[j]? with
      | none => rw [hx] at q; exact q.elim
      | some x => exact absurd ⟨F, j, x, er, hj, hx⟩ hex
end
end Ev

/-! EvOb: objects of own classes: attributes, methods, makes; list.pop(). -/
namespace Ev
open PySem PySem.Spec L2
variable [Wd]
theorem objOf_ok {h : Hq} {c n : Nat} {w : W} {fs : List (Str × W)} (e : objOf h c w = some (n, fs)) : w = .l n ∧ h[n]? = some (.obj c fs) := by
  unfold objOf at e
  split at e
  · rename_i k
    split at e
    · rename_i c' fs' eo
      split at e
      · rename_i hc
        subst hc
        simp only [Option.some.injEq, Prod.mk.injEq] at e
        obtain ⟨rfl, rfl⟩ := e
        exact ⟨rfl, eo⟩
      · cases e
    · cases e
  · cases e
theorem abase_of {po : Expr} {x : Str} {env : Env} (h0 : notCall0 po = true) : attributeBase po x env (eval po env) = eval po env := by
  unfold attributeBase
  cases po <;> try rfl
  rename_i g as kws ps
  cases g <;> try rfl
  cases as <;> try rfl
  cases kws <;> try rfl
  simp [notCall0] at h0
section
variable {M : ME} {xr : XRel} {T : List FD} {n b : Nat} {B : BB}
theorem call_np {f : Nat} {ws : List W} {h : Hq} (e : callN T n b f ws h ≠ .bad) : ∃ fd, T[f]? = some fd ∧ ws.length = fd.np := by
  cases n with
  | zero => exact absurd (by simp [callN]) e
  | succ n =>
    simp only [callN] at e
    split at e
    · rename_i fd hfd
      refine ⟨fd, hfd, ?_⟩
      unfold runF at e
      split at e
      · assumption
      · exact absurd rfl e
    · exact absurd rfl e
/-- what is known behind a call is the def's promise -/
theorem sp_call {K : PySem.W.Frag} {Wx : WX} {f : Nat} {ws : List W} {vs : List V} {m : List Addr} {F H : Hp} {env : Vars} {h : Hq} {σ : L2.St} {Q : VK} (hb : b ∈ B.c) (hB : ∀ c ∈ B.c, c ≤ b) (S : SR K B m F env h σ H) (rv : WRs K m F vs ws)
    (q : PostE K xr B Wx m F env σ H (callN T n b f ws h) Q) : spF K xr T n f vs H Q (fun cls dx H' => Wx cls dx σ H') := by
  have nb : callN T n b f ws h ≠ .bad := fun z => by rw [z] at q; exact q
  obtain ⟨fd, hfd, hl⟩ := call_np nb
  refine ⟨fd, hfd, by rw [rv.length]; exact hl, B.c, b, m, F, ws, h, hb, hB, S.hr, rv, ?_⟩
  cases e : callN T n b f ws h with
  | bad => exact nb e
  | ok w h' =>
    rw [e] at q
    exact fun v m' F' H' x r rw' => q m' F' H' x (S.ext r x) v rw'
  | ex c ds h' =>
    rw [e] at q
    exact fun m' F' H' cls dx x r y => q m' F' H' cls dx x r y
theorem snd_fld {c : Nat} {a : E} {f : Str} (ha : SndE M xr T n b B a) : SndE M xr T n b B (.fld c a f) := by
  intro X Wx sc p k h
  cases p <;> try (simp only [matE, Bool.false_eq_true] at h; done)
  rename_i pa f' pos
  simp only [matE, Bool.and_eq_true, decide_eq_true_eq] at h
  obtain ⟨⟨⟨rfl, h0⟩, h1⟩, h2⟩ := h
  obtain ⟨d, ed, hf⟩ : ∃ d, M.ocl[c]? = some d ∧ f ∈ d.fl := by
    unfold oclFl at h0
    split at h0
    · rename_i d ed
      exact ⟨d, ed, List.contains_iff_mem.mp h0⟩
    · cases h0
  have O := k.ocs c d ed
  refine SE.of_plain ((pe_fld (ha X Wx sc pa k h2).pe (abase_of h1)).weak fun σ H Q q => ?_) (fun _ => rfl) rfl
  obtain ⟨m, F, env, hq, S, q⟩ := q
  simp only [evE] at q
  refine ⟨m, F, env, hq, S, q.bind.mono fun w h1 m1 F1 H1 x1 S1 q v rv => ?_⟩
  unfold evFld at q
  split at q
  · rename_i nn fs eo
    obtain ⟨rfl, eo2⟩ := objOf_ok eo
    obtain ⟨al, em, rfl⟩ := rv
    obtain ⟨fa, dx, vs, eH, rel⟩ := S1.hr.ob nn _ al eo2 em
    rw [O.ca] at eH
    have lk := rel.look f
    split at q
    · rename_i u eu
      rw [eu] at lk
      obtain ⟨y, ey, ry⟩ := lk
      exact ⟨al, _, dx, vs, y, rfl, eH, O.cls, O.noat f hf, ey, PostE.now q S1 ry⟩
    · exact q.elim
  · exact q.elim
theorem snd_mcl {c f : Nat} {mm : Str} {o : E} {es : Es} (hb : b ∈ B.c) (hB : ∀ c ∈ B.c, c ≤ b) (ho : SndE M xr T n b B o) (hes : SndEs M xr T n b B es) : SndE M xr T n b B (.mcl c f mm o es) := by
  intro X Wx sc p k h
  cases p <;> try (simp only [matE, Bool.false_eq_true] at h; done)
  rename_i pf ps kw pos
  cases pf <;> try (simp [matE] at h; done)
  rename_i po x ap
  cases kw <;> try (simp [matE] at h; done)
  simp only [matE, Bool.and_eq_true, decide_eq_true_eq] at h
  obtain ⟨⟨⟨⟨⟨⟨⟨hcm, rfl⟩, h0⟩, h1⟩, hl⟩, hlen⟩, h2⟩, h3⟩ := h
  obtain ⟨d, ed, hf⟩ : ∃ d, M.ocl[c]? = some d ∧ (x, f) ∈ d.ms := by
    unfold oclMt at h0
    split at h0
    · rename_i d ed
      exact ⟨d, ed, List.contains_iff_mem.mp h0⟩
    · cases h0
  have O := k.ocs c d ed
  obtain ⟨fd, pr, hbd, hF⟩ := k.mfn c d x f ed (.inl hf)
  have a := (ho X Wx sc po k h2).pe
  have ha := hes X Wx sc _ k h3
  have rd : ∀ (σ : L2.St) (H : Hp) (Q : VK), tE X.K xr B Wx (evE b (callN T n) (.mcl c f x o es)) σ H Q → tMethG (He.ga X.K d.nm) x (spF X.K xr T n f) (fun σ cls dx H' => Wx cls dx σ H') (tE X.K xr B Wx (evE b (callN T n) o)) (tA X.K xr B Wx (evEs b (callN T n) es)) σ H Q := fun σ H Q q => by
    obtain ⟨m, F, env, hq, S, q⟩ := q
    simp only [evE] at q
    refine ⟨m, F, env, hq, S, q.bind.mono fun w h1 m1 F1 H1 x1 S1 q v rv => ?_⟩
    split at q
    · rename_i hm
      unfold hasM at hm
      split at hm
      · rename_i nn fs eo
        obtain ⟨rfl, eo2⟩ := objOf_ok eo
        have rv0 := rv
        obtain ⟨al, em, rfl⟩ := rv
        obtain ⟨fa, dx, vs, eH, rel⟩ := S1.hr.ob nn _ al eo2 em
        rw [O.ca] at eH
        have lk := rel.look x
        rw [Option.isNone_iff_eq_none.mp hm] at lk
        refine ⟨al, dx, vs, rfl, eH, lk, m1, F1, env, h1, S1, q.bind.mono fun ws h2 m2 F2 H2 x2 S2 q us ru => ?_⟩
        exact sp_call hb hB S2 (.cons (wr_mono x2.ml x2.sub rv0) ru) q
      · cases hm
    · exact q.elim
  cases ps with
  | nil =>
    refine SE.of_plain ((pe_meth0G (pos := pos) (apos := ap) a O.cls (O.meth x f hf) hF k.gd ((k.room hcm).mono (by omega)) hbd (fun σ => passAt k.tk σ) (abase_of h1) hl).weak fun σ H Q q => ?_) (fun _ => rfl) rfl
    obtain ⟨m, F, env, hq, S, q⟩ := rd σ H Q q
    refine ⟨m, F, env, hq, S, q.mono fun w h1 m1 F1 H1 x1 S1 q v rv => ?_⟩
    obtain ⟨al, dx, vs, e1, e2, e3, m2, F2, env2, h2, S2, q⟩ := q v rv
    refine ⟨al, dx, vs, e1, e2, e3, ?_⟩
    cases es with
    | cons _ _ => simp [matEs] at h3
    | nil =>
      simp only [evEs] at q
      exact q m2 F2 H1 (.refl ..) S2 [] .nil
  | cons p ps =>
    have hs := star1 (env := X.env) (ps := ps) (star_head h3)
    have sts := stars_of (env := X.env) h3 pos
    have hpl : (backTo pos (starEach ps X.env)).any (·.1) = false := by
      cases es with
      | nil => simp [matEs] at h3
      | cons e es => simp only [matEs, Bool.and_eq_true] at h3; exact (stars_of h3.2 pos).1
    refine SE.of_plain ((pe_methG (pos := pos) (apos := ap) a O.cls (O.meth x f hf) hF k.gd ((k.room hcm).mono (by omega)) hbd (fun σ => passAt k.tk σ) ha (abase_of h1) hl sts.2 (by omega) hs hpl).weak rd) (fun _ => rfl) rfl
theorem snd_mko {c f : Nat} {es : Es} (hb : b ∈ B.c) (hB : ∀ c ∈ B.c, c ≤ b) (hes : SndEs M xr T n b B es) : SndE M xr T n b B (.mko c f es) := by
  intro X Wx sc p k h
  cases p <;> try (simp only [matE, Bool.false_eq_true] at h; done)
  rename_i pf ps kw pos
  cases pf <;> try (simp [matE] at h; done)
  rename_i x p2
  cases ps <;> try (simp [matE] at h; done)
  rename_i p ps
  cases kw <;> try (simp [matE] at h; done)
  simp only [matE, Bool.and_eq_true] at h
  obtain ⟨⟨⟨⟨hcm, h0⟩, h1⟩, h2⟩, h3⟩ := h
  obtain ⟨d, ed, hx, hi⟩ : ∃ d, M.ocl[c]? = some d ∧ d.nm = x ∧ d.ini = some f := by
    unfold oclMk at h0
    split at h0
    · rename_i d ed
      simp only [Bool.and_eq_true, decide_eq_true_eq] at h0
      exact ⟨d, ed, h0.1, h0.2⟩
    · cases h0
  subst hx
  have O := k.ocs c d ed
  obtain ⟨fd, pr, hbd, hF⟩ := k.mfn c d "__init__" f ed (.inr ⟨rfl, hi⟩)
  have ha := hes X Wx sc _ k h3
  have hs := star1 (env := X.env) (ps := ps) (star_head h3)
  have hpl : (backTo pos (starEach ps X.env)).any (·.1) = false := by
    cases es with
    | nil => simp [matEs] at h3
    | cons e es => simp only [matEs, Bool.and_eq_true] at h3; exact (stars_of h3.2 pos).1
  refine SE.of_plain ((pe_makeG (p := p2) (pos := pos) (E := fun σ cls dx H' => Wx cls dx σ H') (O.mkr f hi) hF k.gd ((k.room hcm).mono (by omega)) (gl_of k.hs h1) O.gC hbd (fun σ => passAt k.tk σ) ha (plainN_of h2).1 hs hpl).weak fun σ H Q q => ?_) (fun _ => rfl) rfl
  simp only [tE, evE] at q
  refine bindA q fun m F env hq H ws vs S rv q => ?_
  intro xa dx hxa hdx hne
  have hr1 : HR X.K B.c m F hq (upd H dx (.own xa)) := S.hr.other (S.hr.freeF hdx) (S.hr.freeM hdx)
  have e1 : Ext m F H m F (upd H dx (.own xa)) := ⟨.refl _, .refl _, fun b o e _ => by rw [upd_ne (ne_of_none e hdx)]; exact e, fun _ x y => absurd x y, fun _ _ hf _ => hf⟩
  have hx1 : upd H dx (.own xa) xa = none := by rw [upd_ne (Ne.symm hne)]; exact hxa
  obtain ⟨hr2, e2⟩ := hr1.newL (u := .ins (He.ga X.K d.nm) dx []) (o := .obj c []) hx1 ⟨S.hr.freeF hxa, dx, [], by rw [upd_same, O.ca], .nil⟩ (fun _ _ _ => trivial)
  have e3 := e1.trans e2
  have rv2 : WRs X.K (m ++ [xa]) F (.ref xa :: vs) (.l hq.length :: ws) := .cons ⟨xa, by rw [← S.hr.len]; simp, rfl⟩ (wrs_mono e3.ml e3.sub rv)
  have nb : callN T n b f (.l hq.length :: ws) (hq ++ [.obj c []]) ≠ .bad := fun z => by rw [z] at q; exact q
  obtain ⟨fd2, hfd, hl⟩ := call_np nb
  refine ⟨fd2, hfd, by rw [← hl, ← rv2.length], B.c, b, m ++ [xa], F, _, _, hb, hB, hr2, rv2, ?_⟩
  cases e : callN T n b f (.l hq.length :: ws) (hq ++ [.obj c []]) with
  | bad => exact nb e
  | ok w h' =>
    rw [e] at q
    intro v m' F' H' x r rw'
    cases w with
    | l _ => exact q.elim
    | x _ _ => exact q.elim
    | d y =>
      cases y <;> try exact q.elim
      have rw' : Dp X.K F' v .none := rw'
      cases rw'
      refine ⟨rfl, ?_⟩
      have q : PostE X.K xr B Wx m F env σ H (.ok (.l hq.length) h') Q := q
      have e4 := e3.trans x
      exact q m' F' H' e4 (S.ext r e4) _ ⟨xa, x.ml.get (by rw [← S.hr.len]; simp), rfl⟩
  | ex c2 ds h' =>
    rw [e] at q
    exact fun m' F' H' cls dx2 x r y => q m' F' H' cls dx2 (e3.trans x) r y
theorem snd_pop0 {o : E} (ho : SndE M xr T n b B o) : SndE M xr T n b B (.pop0 o) := by
  intro X Wx sc p k h
  cases p <;> try (simp only [matE, Bool.false_eq_true] at h; done)
  rename_i pf ps kw pos
  cases pf <;> try (simp [matE] at h; done)
  rename_i po x ap
  cases ps <;> try (simp [matE] at h; done)
  cases kw <;> try (simp [matE] at h; done)
  simp only [matE, Bool.and_eq_true, decide_eq_true_eq] at h
  obtain ⟨⟨⟨rfl, h0⟩, hl⟩, h1⟩ := h
  have a := (ho X Wx sc po k h1).pe
  refine SE.of_plain ((pe_bm0 (r := rPop) PySem.F.plainAttrs_list PySem.F.slot_list_pop PySem.F.type_list_pop mt_pop a (abase_of h0) hl).weak fun σ H Q q => ?_) (fun _ => rfl) rfl
  obtain ⟨m, F, env, hq, S, q⟩ := q
  simp only [evE] at q
  refine ⟨m, F, env, hq, S, q.bind.mono fun w h1 m1 F1 H1 x1 S1 q v rv => ?_⟩
  unfold evPop at q
  split at q
  · rename_i nn
    split at q
    · rename_i xs eo
      obtain ⟨al, em, rfl⟩ := rv
      obtain ⟨fa, vs, eH, dd⟩ := S1.hr.ob nn _ al eo em
      split at q
      · rename_i y ey
        obtain ⟨u, eu, ru⟩ := dd.get ey
        have dl : DpAll X.K F1 vs.dropLast xs.dropLast := by
          rw [List.dropLast_eq_take, List.dropLast_eq_take, dd.length]
          exact dd.take _
        obtain ⟨r', e'⟩ := S1.hr.put (u := .lst vs.dropLast) (o := .lst xs.dropLast) em fa ⟨fa, _, upd_same, dl⟩ (fun c _ _ k hk => by simp [refs] at hk)
        refine ⟨.inl ⟨rfl, vs, .of eH⟩, al, vs, u, rfl, rfl, eH, by rw [dd.length]; exact eu, ?_⟩
        exact q _ _ _ e' (S1.ext r' e') u ru
      · exact q.elim
    · exact q.elim
  · exact q.elim
end
end Ev

/-! EvK: comprehensions; every expression (sndE). -/
namespace Ev
open PySem PySem.Spec L2
variable [Wd]
section
variable {M : ME} {xr : XRel} {T : List FD} {n b : Nat} {B : BB}
def SndIt (M : ME) (xr : XRel) (T : List FD) (n b : Nat) (B : BB) (it : It) : Prop := ∀ (X : Cx) (Wx : WX) (sc : Scope) (tg p : Expr), XOk X Wx M xr T n B sc → matIt M sc it p = true → PI X tg p (tI X.K xr B Wx (evIt b (callN T n) it))
theorem tI_of {K : PySem.W.Frag} {Wx : WX} {ra : Vars → Hq → R W} {g : W → Hq → R (List W × Option Nat)} {σ : L2.St} {H : Hp} {G : L2.It → Hp → Prop} {Q' : VK} (p : tI K xr B Wx (fun env h => (ra env h).bind g) σ H G)
    (i : ∀ m F env h H w v, SR K B m F env h σ H → WR K m F v w → PostG K xr B Wx m F env σ H (g w h) (fun ws h' m' F' H' => ∀ J, ItOk K ws.2 h' m' F' J ws.1 → ws.1.length ≤ sizeLine → G J H') → Q' v H) : tE K xr B Wx ra σ H Q' := by
  obtain ⟨m, F, env, h, S, p⟩ := p
  exact ⟨m, F, env, h, S, p.bind.mono fun w h1 m1 F1 H1 x1 S1 p v rv => i m1 F1 env h1 H1 w v S1 rv p⟩
theorem snd_it_e {a : E} (ha : SndE M xr T n b B a) : SndIt M xr T n b B (.e a) := by
  intro X Wx sc tg p k h
  simp only [matIt] at h
  refine (pi_seq (ha X Wx sc p k h).pe).weak fun σ H G q => ?_
  simp only [tI, evIt] at q
  refine tI_of (ra := evE b (callN T n) a) q fun m F env hq H w v S r q => ?_
  have szE := sz_eq
  cases w with
  | x _ _ => exact r.elim
  | l n =>
    obtain ⟨a, em, rfl⟩ := r
    simp only [itemsOf] at q
    refine .inr ⟨a, rfl, .inl ?_⟩
    split at q
    · rename_i ws ew
      split at ew
      · rename_i xs eo
        cases ew
        obtain ⟨f, vs, eH, dd⟩ := S.hr.ob n _ a eo em
        refine ⟨⟨vs, .of eH⟩, fun len => ?_⟩
        have hl := len vs (.of eH)
        exact q m F H (.refl ..) S _ (it_live em (.inl ⟨xs, eo, rfl⟩)) (by simp only [List.length_map]; rw [← dd.length]; exact hl)
      · rename_i ws' eo
        cases ew
        obtain ⟨f, vs, eH, dd⟩ := S.hr.ob n _ a eo em
        refine ⟨⟨vs, .of eH⟩, fun len => ?_⟩
        have hl := len vs (.of eH)
        exact q m F H (.refl ..) S _ (it_live em (.inr eo)) (by show ws.length ≤ _; rw [← dd.length]; exact hl)
      · cases ew
    · exact q.elim
  | d x =>
    have r : Dp X.K F v x := r
    cases r <;> try exact q.elim
    case str z =>
      simp only [itemsOf] at q
      split at q
      · rename_i ws ew
        split at ew
        · rename_i hz
          cases ew
          exact .inl ⟨z, rfl, q m F H (.refl ..) S _ it_str (by simp only [List.length_map, Array.length_toList]; rw [← szE]; exact hz)⟩
        · cases ew
      · exact q.elim
    case lst a vs ds sq dd =>
      refine .inr ⟨a, rfl, .inl ⟨⟨vs, S.hr.sub.sql sq⟩, fun len => ?_⟩⟩
      have hl := len vs (S.hr.sub.sql sq)
      exact q m F H (.refl ..) S _ (it_list sq dd) (by simp only [List.length_map]; rw [← dd.length]; exact hl)
    case tup a vs ds sq dd =>
      refine .inr ⟨a, rfl, .inr ⟨⟨vs, S.hr.sub.sqt sq⟩, fun len => ?_⟩⟩
      have hl := len vs (S.hr.sub.sqt sq)
      exact q m F H (.refl ..) S _ (it_tup sq dd) (by simp only [List.length_map]; rw [← dd.length]; exact hl)
theorem rg_ok {lo hi : Int} (h : rgOk lo hi = true) : -(2 ^ 61) ≤ lo ∧ lo < 2 ^ 61 ∧ -(2 ^ 61) ≤ hi ∧ hi < 2 ^ 61 ∧ hi - lo ≤ 16777216 := by unfold rgOk at h; exact of_decide_eq_true h
theorem up_len {lo hi : Int} (h : rgOk lo hi = true) : (rangeUp lo hi).length ≤ sizeLine := by
  have := rg_ok h
  rw [rangeUp, List.length_map, List.length_range, PySem.sizeLine_eq]
  omega
theorem dn_len {lo hi : Int} (h : rgOk lo hi = true) : (rangeDn hi lo).length ≤ sizeLine := by
  have := rg_ok h
  rw [rangeDn, List.length_map, List.length_range, PySem.sizeLine_eq]
  omega
theorem snd_rg1 {a : E} (ha : SndE M xr T n b B a) : SndIt M xr T n b B (.rg1 a) := by
  intro X Wx sc tg p k h
  cases p <;> try (simp only [matIt, Bool.false_eq_true] at h; done)
  rename_i pf ps kw pos
  cases pf <;> try (simp [matIt] at h; done)
  rename_i x p2
  rcases ps with _ | ⟨p, _ | ⟨p3, ps⟩⟩ <;> try (simp [matIt] at h; done)
  cases kw <;> try (simp [matIt] at h; done)
  simp only [matIt, Bool.and_eq_true, decide_eq_true_eq] at h
  obtain ⟨⟨⟨rfl, h1⟩, h2⟩, h3⟩ := h
  have a1 := (ha X Wx sc p k h3).pe
  refine (pi_range1 (p := p2) (pos := pos) (gl_of k.hs h1) (k.bl _ (by decide +kernel)) (pa_cons a1 pa_nil (star1 h2)) (by rw [star1 h2]; rfl)).weak fun σ H G q => ?_
  simp only [tI, evIt] at q
  refine tI_of (ra := evE b (callN T n) a) q fun m F env hq H w v S r q => ?_
  split at q
  · rename_i j
    split at q
    · rename_i hr
      have r : Dp X.K F v (.int j) := r
      cases r
      have hj := rg_ok hr
      refine ⟨j, rfl, by omega, by omega, ?_⟩
      have e : j.toNat = (j - 0).toNat := by rw [Int.sub_zero]
      rw [e]
      exact q m F H (.refl ..) S _ it_up (up_len hr)
    · exact q.elim
  · exact q.elim
theorem tI_of2 {K : PySem.W.Frag} {Wx : WX} {ra rb : Vars → Hq → R W} {g : W → W → Hq → R (List W × Option Nat)} {σ : L2.St} {H : Hp} {G : L2.It → Hp → Prop} {Q' : List V → Hp → Prop} (p : tI K xr B Wx (fun env h => (ra env h).bind fun w h => (rb env h).bind fun v h => g w v h) σ H G)
    (i : ∀ m F env h H w v w2 v2, SR K B m F env h σ H → WR K m F v w → WR K m F v2 w2 → PostG K xr B Wx m F env σ H (g w w2 h) (fun ws h' m' F' H' => ∀ J, ItOk K ws.2 h' m' F' J ws.1 → ws.1.length ≤ sizeLine → G J H') → Q' [v, v2] H) : tCons (tE K xr B Wx ra) (tCons (tE K xr B Wx rb) tNil) σ H Q' := by
  obtain ⟨m, F, env, h, S, p⟩ := p
  refine ⟨m, F, env, h, S, p.bind.mono fun w h1 m1 F1 H1 x1 S1 p v rv => ⟨m1, F1, env, h1, S1, p.bind.mono fun w2 h2 m2 F2 H2 x2 S2 p v2 rv2 => ?_⟩⟩
  exact i m2 F2 env h2 H2 w v w2 v2 S2 (wr_mono x2.ml x2.sub rv) rv2 p
theorem snd_rg2 {a c : E} (ha : SndE M xr T n b B a) (hc : SndE M xr T n b B c) : SndIt M xr T n b B (.rg2 a c) := by
  intro X Wx sc tg p k h
  cases p <;> try (simp only [matIt, Bool.false_eq_true] at h; done)
  rename_i pf ps kw pos
  cases pf <;> try (simp [matIt] at h; done)
  rename_i x p2
  rcases ps with _ | ⟨p, _ | ⟨p3, _ | ⟨p4, ps⟩⟩⟩ <;> try (simp [matIt] at h; done)
  cases kw <;> try (simp [matIt] at h; done)
  simp only [matIt, Bool.and_eq_true, decide_eq_true_eq] at h
  obtain ⟨⟨⟨⟨⟨rfl, h1⟩, h2⟩, h2'⟩, h3⟩, h4⟩ := h
  have a1 := (ha X Wx sc p k h3).pe
  have a2 := (hc X Wx sc p3 k h4).pe
  refine (pi_range2 (p := p2) (pos := pos) (gl_of k.hs h1) (k.bl _ (by decide +kernel)) (pa_cons a1 (pa_cons a2 pa_nil (star1 h2')) (star1 h2)) (by rw [star1 h2, star1 h2']; rfl) (by rw [star1 h2']; rfl)).weak fun σ H G q => ?_
  simp only [tI, evIt] at q
  refine tI_of2 (ra := evE b (callN T n) a) (rb := evE b (callN T n) c) q fun m F env hq H w v w2 v2 S r r2 q => ?_
  split at q
  · rename_i i j
    split at q
    · rename_i hr
      have r : Dp X.K F v (.int i) := r
      have r2 : Dp X.K F v2 (.int j) := r2
      cases r
      cases r2
      have hj := rg_ok hr
      exact ⟨i, j, rfl, ⟨by omega, by omega, by omega, by omega⟩, q m F H (.refl ..) S _ it_up (up_len hr)⟩
    · exact q.elim
  · exact q.elim
theorem snd_rgd {a c : E} (ha : SndE M xr T n b B a) (hc : SndE M xr T n b B c) : SndIt M xr T n b B (.rgd a c) := by
  intro X Wx sc tg p k h
  cases p <;> try (simp only [matIt, Bool.false_eq_true] at h; done)
  rename_i pf ps kw pos
  cases pf <;> try (simp [matIt] at h; done)
  rename_i x p2
  rcases ps with _ | ⟨p, _ | ⟨p3, _ | ⟨p4, _ | ⟨p5, ps⟩⟩⟩⟩ <;> try (simp [matIt] at h; done)
  cases kw <;> try (simp [matIt] at h; done)
  simp only [matIt, Bool.and_eq_true, decide_eq_true_eq] at h
  obtain ⟨⟨⟨⟨⟨⟨rfl, h0⟩, h1⟩, h2⟩, h2'⟩, h3⟩, h4⟩ := h
  obtain ⟨kk, pos4, pos3, rfl⟩ : ∃ kk pos4 pos3, p4 = .UnaryOp .USub (.Constant (.int 1) kk pos4) pos3 := by
    cases p4 <;> try (simp [isM1] at h0; done)
    rename_i o pc pos3
    cases o <;> try (simp [isM1] at h0; done)
    cases pc <;> try (simp [isM1] at h0; done)
    rename_i cc kk pos4
    cases cc <;> try (simp [isM1] at h0; done)
    simp only [isM1, decide_eq_true_eq] at h0
    subst h0
    exact ⟨_, _, _, rfl⟩
  have a1 := (ha X Wx sc p k h3).pe
  have a2 := (hc X Wx sc p3 k h4).pe
  have a3 : PE X (.UnaryOp .USub (.Constant (.int 1) kk pos4) pos3) (tUn (rU fun i => .int (-i)) (tC (.int 1))) := pe_un un_neg pe_int
  refine (pi_range3 (p := p2) (pos := pos) (gl_of k.hs h1) (k.bl _ (by decide +kernel)) (pa_cons a1 (pa_cons a2 (pa_cons a3 pa_nil rfl) (star1 h2')) (star1 h2)) (star1 h2) (by rw [star1 h2']; rfl)).weak fun σ H G q => ?_
  simp only [tI, evIt] at q
  obtain ⟨m, F, env, h, S, p⟩ := q
  refine ⟨m, F, env, h, S, p.bind.mono fun w h1 m1 F1 H1 x1 S1 p1 v rv => ⟨m1, F1, env, h1, S1, p1.bind.mono fun w2 h2 m2 F2 H2 x2 S2 p2 v2 rv2 => ?_⟩⟩
  clear p p1
  refine ⟨1, rfl, ?_⟩
  split at p2
  · rename_i i j
    split at p2
    · rename_i hr
      have r : Dp X.K F1 v (.int i) := rv
      have r2 : Dp X.K F2 v2 (.int j) := rv2
      cases r
      cases r2
      have hj := rg_ok hr
      exact ⟨i, j, -1, (i - j).toNat, rfl, RgC.neg (by omega) (by omega) (by omega) (by omega), p2 m2 F2 H2 (.refl ..) S2 _ it_dn (dn_len hr)⟩
    · exact p2.elim
  · exact p2.elim

theorem own_map {N : List Str} {sto : Str → Bool} : ∀ {t : List Nat} {ps : List Expr}, matTs N sto t ps = true → (ownOf N t).map (·.2) = t
  | [], _, _ => rfl
  | i :: is, [], h => by simp [matTs] at h
  | i :: is, p :: ps, h => by
    cases p <;> simp only [matTs, Bool.false_eq_true] at h
    simp only [Bool.and_eq_true, isAt, decide_eq_true_eq] at h
    obtain ⟨⟨h1, _⟩, h3⟩ := h
    have ih := own_map h3
    unfold ownOf at ih ⊢
    rw [List.filterMap_cons, h1]
    simp only [Option.map_some, List.map_cons, ih]
theorem own_mapT {N : List Str} {sto : Str → Bool} {t : List Nat} {u : Bool} {tg : Expr} (h : matT N sto t u tg = true) : (ownOf N t).map (·.2) = t := by
  unfold matT at h
  split at h
  · rename_i i x pos
    simp only [Bool.and_eq_true, isAt, decide_eq_true_eq] at h
    simp [ownOf, h.1]
  · exact own_map h
  · cases h
theorem blk_ok {X : Cx} {Wx : WX} {sc scope : Scope} (k : XOk X Wx M xr T n B sc) (hcm : M.cm = true) (s : Shared) (H : Hp) (C : Addr) (cl : List (Str × Addr)) (fp : List Addr) : XOk (X.blk s H scope (compEnvC scope cl C X.env) fp) WF M xr T n B (relS scope sc) :=
  ⟨k.calm, k.nd, k.hN, (by show relS scope X.env.scope = _; rw [k.hs]), takes0, k.hu, k.hw, k.gd, k.room, k.bl, k.gls, k.glz, k.glt, k.fns, k.ocs, k.mfn, k.xrE, k.cls, k.bcl, k.xs, k.exn, fun e he => by rw [k.noex hcm] at he; cases he⟩
theorem blk_sto {X : Cx} {scope : Scope} {x : Str} (s : Shared) (H : Hp) (C : Addr) (cl : List (Str × Addr)) (fp : List Addr) (h : isSto scope x = true) :
    Loc (X.blk s H scope (compEnvC scope cl C X.env) fp).env.scope x ∧ ((X.blk s H scope (compEnvC scope cl C X.env) fp).fn x = true ∨ (X.blk s H scope (compEnvC scope cl C X.env) fp).env.scope.names.lookup x = some .local) := by
  rcases sto_of h with h | h
  · have q : (relS scope X.env.scope).names.lookup x = some .local := lookup_relS_keep (by decide) h
    exact ⟨.inl q, .inr q⟩
  · have q : (relS scope X.env.scope).names.lookup x = some .cell := lookup_relS_keep (by decide) h
    exact ⟨.inr q, .inl (by show (scope.names.lookup x == some NameKind.cell) = true; rw [h]; rfl)⟩
theorem noset {it : Expr} {env : Env} (h : notSet it = true) : ∀ x, foldedSetIterable it env x = pure x := by
  intro x
  cases it <;> first | rfl | (simp [notSet] at h)
/-- all that a comprehension needs -/
structure LcOk (X : Cx) (xr : XRel) (B : BB) (Wx : WX) (T : List FD) (n b : Nat) (t : List Nat) (u : Bool) (it : It) (c : Oe) (e : E) (pe tg pi : Expr) (ifs : List Expr) (scope : Scope) (own : List (Str × Nat)) : Prop where
  hi : PI X tg pi (tI X.K xr B Wx (evIt b (callN T n) it))
  ok : BlkOk X.N X.env.scope scope own
  hg : ∀ (s : Shared) (H : Hp) (C : Addr) (cl : List (Str × Addr)) (fp : List Addr), PG (X.blk s H scope (compEnvC scope cl C X.env) fp) tg (gT X.K t u)
  ht : ∀ (s : Shared) (H : Hp) (C : Addr) (cl : List (Str × Addr)) (fp : List Addr), PTs (X.blk s H scope (compEnvC scope cl C X.env) fp) ifs (tO X.K xr B WF (evOe b (callN T n) c))
  he : ∀ (s : Shared) (H : Hp) (C : Addr) (cl : List (Str × Addr)) (fp : List Addr), PE (X.blk s H scope (compEnvC scope cl C X.env) fp) pe (tE X.K xr B WF (evE b (callN T n) e))
  hs : ∀ x, foldedSetIterable pi X.env x = pure x
  hm : own.map (·.2) = t
  hne : t ≠ []
theorem lc_ok {X : Cx} {Wx : WX} {sc : Scope} {kk : Nat} {t : List Nat} {u : Bool} {it : It} {c : Oe} {e : E} {pe tg pi : Expr} {ifs : List Expr} {scope : Scope} {a : Int} {pos : Pos} (k : XOk X Wx M xr T n B sc) (hit : SndIt M xr T n b B it) (hc : ∀ e, c = .some e → SndE M xr T n b B e) (he : SndE M xr T n b B e)
    (h : matE M sc (.lc kk t u it c e) (.ListComp pe [⟨tg, pi, ifs, a⟩] scope pos) = true) : M.cm = true ∧ a = 0 ∧ LcOk X xr B Wx T n b t u it c e pe tg pi ifs scope (ownOf M.N t) := by
  simp only [matE, Bool.and_eq_true, decide_eq_true_eq, Bool.not_eq_true'] at h
  obtain ⟨⟨⟨⟨⟨⟨⟨h0, hn⟩, h1⟩, h2⟩, h3⟩, h4⟩, h5⟩, h6⟩ := h
  obtain ⟨hcm, h0⟩ := h0
  refine ⟨hcm, h0, hit X Wx sc tg pi k h4, ?_, fun s H C cl fp => ?_, fun s H C cl fp => ?_, fun s H C cl fp => ?_, noset h1, own_mapT h3, ?_⟩
  · rw [k.hN, k.hs]; exact blkOk_by h2
  · exact pg_T (X := X.blk s H scope (compEnvC scope cl C X.env) fp) (fun _ => k.clm hcm) k.hN k.nd (fun x hx => blk_sto s H C cl fp hx) h3
  · have kb := blk_ok (scope := scope) k hcm s H C cl fp
    cases c with
    | none =>
      cases ifs with
      | cons _ _ => simp [matIfs] at h5
      | nil =>
        refine PTs.weak pts_nil fun σ H Q q => ?_
        obtain ⟨m, F, env, hq, S, q⟩ := q
        obtain ⟨j, ej, q⟩ := q m F H (.refl ..) S
        cases ej
        exact q
    | some ce =>
      rcases ifs with _ | ⟨p, _ | ⟨p2, ps⟩⟩ <;> try (simp [matIfs] at h5; done)
      simp only [matIfs, Bool.and_eq_true] at h5
      refine (pts_one ((hc ce rfl _ _ _ p kb h5.1).pt h5.2)).weak fun σ H Q q => ?_
      obtain ⟨m, F, env, hq, S, q⟩ := q
      simp only [evOe] at q
      refine ⟨m, F, env, hq, S, q.bind.mono fun w h1 m1 F1 H1 x1 S1 q => ?_⟩
      obtain ⟨j, ej, q2⟩ := q m1 F1 H1 (.refl ..) S1
      clear q
      unfold boolO at ej
      split at ej
      · rename_i e2; cases e2
      · rename_i e2; cases e2; cases ej; exact ⟨_, rfl, q2⟩
      · cases ej
  · exact (he _ _ _ pe (blk_ok (scope := scope) k hcm s H C cl fp) h6).pe
  · intro z; rw [z] at hn; simp at hn
theorem lc_ev {K : PySem.W.Frag} {Wx : WX} {kk : Nat} {t : List Nat} {u : Bool} {it : It} {c : Oe} {e : E} {σ : L2.St} {H : Hp} {Q : VK} (hx : B.ex = none) (hne : t ≠ []) (q : tE K xr B Wx (evE b (callN T n) (.lc kk t u it c e)) σ H Q) :
    tLc (tI K xr B Wx (evIt b (callN T n) it)) (gT K t u) (tO K xr B WF (evOe b (callN T n) c)) (tE K xr B WF (evE b (callN T n) e)) t σ H Q := by
  refine lc_read (k := kk) hx hne ?_
  simp only [tE, evE] at q
  exact q
theorem snd_lc {kk : Nat} {t : List Nat} {u : Bool} {it : It} {c : Oe} {e : E} (hit : SndIt M xr T n b B it) (hc : ∀ e, c = .some e → SndE M xr T n b B e) (he : SndE M xr T n b B e) : SndE M xr T n b B (.lc kk t u it c e) := by
  intro X Wx sc p k h
  cases p <;> try (simp only [matE, Bool.false_eq_true] at h; done)
  rename_i pe gs scope pos
  rcases gs with _ | ⟨⟨tg, pi, ifs, a⟩, _ | ⟨g2, gs⟩⟩ <;> try (simp [matE] at h; done)
  obtain ⟨hcm, rfl, L⟩ := lc_ok k hit hc he h
  refine SE.of_plain ((pe_lc (k.clm hcm) k.nd L.hi L.ok L.hg L.ht L.he L.hs).weak fun σ H Q q => ?_) (fun _ => rfl) rfl
  rw [L.hm]
  exact lc_ev (k.noex hcm) L.hne q
/-- a comprehension with two loops: what its parts do -/
structure Lc2Ok (X : Cx) (xr : XRel) (B : BB) (Wx : WX) (T : List FD) (n b : Nat) (t : List Nat) (u : Bool) (it : It) (t1 : List Nat) (u1 : Bool) (it1 : It) (e : E) (pe tg pi tg1 pi1 : Expr) (scope : Scope) (own : List (Str × Nat)) : Prop where
  hi : PI X tg pi (tI X.K xr B Wx (evIt b (callN T n) it))
  hi1 : ∀ (s : Shared) (H : Hp) (C : Addr) (cl : List (Str × Addr)) (fp : List Addr), PI (X.blk s H scope (compEnvC scope cl C X.env) fp) tg1 pi1 (tI X.K xr B WF (evIt b (callN T n) it1))
  he : ∀ (s : Shared) (H : Hp) (C : Addr) (cl : List (Str × Addr)) (fp : List Addr), PE (X.blk s H scope (compEnvC scope cl C X.env) fp) pe (tE X.K xr B WF (evE b (callN T n) e))
  hg : ∀ (s : Shared) (H : Hp) (C : Addr) (cl : List (Str × Addr)) (fp : List Addr), PG (X.blk s H scope (compEnvC scope cl C X.env) fp) tg (gT X.K t u)
  hg1 : ∀ (s : Shared) (H : Hp) (C : Addr) (cl : List (Str × Addr)) (fp : List Addr), PG (X.blk s H scope (compEnvC scope cl C X.env) fp) tg1 (gT X.K t1 u1)
  ht : ∀ (s : Shared) (H : Hp) (C : Addr) (cl : List (Str × Addr)) (fp : List Addr), PTs (X.blk s H scope (compEnvC scope cl C X.env) fp) [] (tO X.K xr B WF (evOe b (callN T n) .none))
  ok : BlkOk X.N X.env.scope scope own
  hv : ∀ i ∈ t1, i ∈ own.map (·.2)
  hm : own.map (·.2) = t ++ t1
  hne : t ≠ []
  hne1 : t1 ≠ []
  hs : ∀ x, foldedSetIterable pi X.env x = pure x
  hs1 : ∀ env x, foldedSetIterable pi1 env x = pure x
theorem lc2_ok {X : Cx} {Wx : WX} {sc : Scope} {t : List Nat} {u : Bool} {it : It} {t1 : List Nat} {u1 : Bool} {it1 : It} {e : E} {pe : Expr} {gs : List Comprehension} {scope : Scope} {pos : Pos} (k : XOk X Wx M xr T n B sc) (hit : SndIt M xr T n b B it) (hit1 : SndIt M xr T n b B it1) (he : SndE M xr T n b B e)
    (h : matE M sc (.lc2 t u it t1 u1 it1 e) (.ListComp pe gs scope pos) = true) : M.cm = true ∧ ∃ tg pi tg1 pi1, gs = [⟨tg, pi, [], 0⟩, ⟨tg1, pi1, [], 0⟩] ∧ Lc2Ok X xr B Wx T n b t u it t1 u1 it1 e pe tg pi tg1 pi1 scope (ownOf M.N (t ++ t1)) := by
  rcases gs with _ | ⟨⟨tg, pi, ifs, a⟩, _ | ⟨⟨tg1, pi1, ifs1, a1⟩, _ | ⟨g3, gs⟩⟩⟩ <;> try (simp [matE] at h; done)
  cases ifs <;> try (simp [matE] at h; done)
  cases ifs1 <;> try (simp [matE] at h; done)
  simp only [matE, Bool.and_eq_true, decide_eq_true_eq, Bool.not_eq_true'] at h
  obtain ⟨⟨⟨⟨⟨⟨⟨⟨⟨⟨⟨⟨hcm, rfl⟩, rfl⟩, hn⟩, hn1⟩, hs⟩, hs1⟩, hblk⟩, h3⟩, h31⟩, h4⟩, h41⟩, h6⟩ := h
  have om : (ownOf M.N (t ++ t1)).map (·.2) = t ++ t1 := by
    have a := own_mapT h3
    have b := own_mapT h31
    unfold ownOf at a b ⊢
    rw [List.filterMap_append, List.map_append, a, b]
  have hN := k.hN
  have hsc := k.hs
  refine ⟨hcm, tg, pi, tg1, pi1, rfl, hit X Wx sc tg pi k h4, fun s H C cl fp => hit1 _ _ _ tg1 pi1 (blk_ok (scope := scope) k hcm s H C cl fp) h41,
    fun s H C cl fp => (he _ _ _ pe (blk_ok (scope := scope) k hcm s H C cl fp) h6).pe,
    fun s H C cl fp => pg_T (X := X.blk s H scope (compEnvC scope cl C X.env) fp) (fun _ => k.clm hcm) k.hN k.nd (fun x hx => blk_sto s H C cl fp hx) h3,
    fun s H C cl fp => pg_T (X := X.blk s H scope (compEnvC scope cl C X.env) fp) (fun _ => k.clm hcm) k.hN k.nd (fun x hx => blk_sto s H C cl fp hx) h31,
    fun s H C cl fp => ?_, ?_, fun i hi => by rw [om]; exact List.mem_append.mpr (.inr hi), om, fun z => by rw [z] at hn; simp at hn, fun z => by rw [z] at hn1; simp at hn1, noset hs, fun env x => noset hs1 x⟩
  · refine PTs.weak pts_nil fun σ H Q q => ?_
    obtain ⟨m, F, env, hq, S, q⟩ := q
    obtain ⟨j, ej, q⟩ := q m F H (.refl ..) S
    cases ej
    exact q
  · rw [hN, hsc]; exact blkOk_by hblk
theorem lc2_ev {K : PySem.W.Frag} {Wx : WX} {t : List Nat} {u : Bool} {it : It} {t1 : List Nat} {u1 : Bool} {it1 : It} {e : E} {σ : L2.St} {H : Hp} {Q : VK} (hx : B.ex = none) (hne : t ≠ []) (hne1 : t1 ≠ []) (q : tE K xr B Wx (evE b (callN T n) (.lc2 t u it t1 u1 it1 e)) σ H Q) :
    tLc2 (tI K xr B Wx (evIt b (callN T n) it)) (gT K t u) (tO K xr B WF (evOe b (callN T n) .none)) (tI K xr B WF (evIt b (callN T n) it1)) (gT K t1 u1) (tO K xr B WF (evOe b (callN T n) .none)) (tE K xr B WF (evE b (callN T n) e)) (t ++ t1) t1 σ H Q := by
  refine lc2_read hx (fun env h => by simp only [evOe]) hne hne1 ?_
  simp only [tE, evE] at q
  exact q
theorem snd_lc2 {t : List Nat} {u : Bool} {it : It} {t1 : List Nat} {u1 : Bool} {it1 : It} {e : E} (hit : SndIt M xr T n b B it) (hit1 : SndIt M xr T n b B it1) (he : SndE M xr T n b B e) : SndE M xr T n b B (.lc2 t u it t1 u1 it1 e) := by
  intro X Wx sc p k h
  cases p <;> try (simp only [matE, Bool.false_eq_true] at h; done)
  rename_i pe gs scope pos
  obtain ⟨hcm, tg, pi, tg1, pi1, rfl, L⟩ := lc2_ok k hit hit1 he h
  have P := pe_lc2 (pos := pos) (k.clm hcm) k.nd L.hi L.ok L.hv L.hg L.ht L.hi1 L.hg1 L.ht L.he L.hs L.hs1
  refine SE.of_plain (P.weak fun σ H Q q => ?_) (fun _ => rfl) rfl
  rw [L.hm]
  exact lc2_ev (k.noex hcm) L.hne L.hne1 q

mutual
theorem sndE (hb : b ∈ B.c) (hB : ∀ c ∈ B.c, c ≤ b) : ∀ e : E, SndE M xr T n b B e
  | .bad => snd_bad
  | .dnew => snd_dnew
  | .dnewI => snd_dnewI
  | .call0 f => snd_call0 hb hB
  | .fld c a f => snd_fld (sndE hb hB a)
  | .mcl c f m o es => snd_mcl hb hB (sndE hb hB o) (sndEs hb hB es)
  | .mko c f es => snd_mko hb hB (sndEs hb hB es)
  | .pop0 o => snd_pop0 (sndE hb hB o)
  | .glb i => snd_glb i
  | .glbS z => snd_glbS z
  | .glbT z => snd_glbT z
  | .exis i cs => snd_exis i cs
  | .exfld i js => snd_exfld i js
  | .trg t a => snd_trg (sndE hb hB a)
  | .isa c a => snd_isa (sndE hb hB a)
  | .dlg kvs k d => snd_dlg (sndE hb hB k) (sndE hb hB d)
  | .var i => snd_var i
  | .lit c => snd_lit c
  | .tup es => snd_tup (sndEs hb hB es)
  | .lst es => snd_lst (sndEs hb hB es)
  | .lstM es => snd_lstM (sndEs hb hB es)
  | .lsw es => snd_lsw (sndEs hb hB es)
  | .bin o x y => snd_bin (sndE hb hB x) (sndE hb hB y)
  | .binM o x y => snd_binM (sndE hb hB x) (sndE hb hB y)
  | .neg x => snd_neg (sndE hb hB x)
  | .nt x => snd_nt (sndE hb hB x)
  | .cmp o x y => snd_cmp (sndE hb hB x) (sndE hb hB y)
  | .isN x => snd_isN (sndE hb hB x)
  | .isB n k x => snd_isB (sndE hb hB x)
  | .notN x => snd_notN (sndE hb hB x)
  | .cmp2 o p x y z => snd_cmp2 (sndE hb hB x) (sndE hb hB y) (sndE hb hB z)
  | .one x => snd_one (sndE hb hB x)
  | .and x y => snd_and (sndE hb hB x) (sndE hb hB y)
  | .or x y => snd_or (sndE hb hB x) (sndE hb hB y)
  | .ife c x y => snd_ife (sndE hb hB c) (sndE hb hB x) (sndE hb hB y)
  | .idx x i => snd_idx (sndE hb hB x) (sndE hb hB i)
  | .slcM x lo hi => snd_slcM (sndE hb hB x) (sndOe hb hB lo) (sndOe hb hB hi)
  | .slc x lo hi => snd_slc (sndE hb hB x) (sndOe hb hB lo) (sndOe hb hB hi)
  | .rev x => snd_rev (sndE hb hB x)
  | .blt f es => snd_blt (sndEs hb hB es)
  | .mth f o es => snd_mth (sndE hb hB o) (sndEs hb hB es)
  | .call f es => snd_call hb hB (sndEs hb hB es)
  | .sset x => snd_sset (sndE hb hB x)
  | .lc k t u it c e => snd_lc (sndIt hb hB it) (sndOe hb hB c) (sndE hb hB e)
  | .lc2 t u it t1 u1 it1 e => snd_lc2 (sndIt hb hB it) (sndIt hb hB it1) (sndE hb hB e)
theorem sndEs (hb : b ∈ B.c) (hB : ∀ c ∈ B.c, c ≤ b) : ∀ es : Es, SndEs M xr T n b B es
  | .nil => snd_nil
  | .cons e es => snd_cons (sndE hb hB e) (sndEs hb hB es)
theorem sndOe (hb : b ∈ B.c) (hB : ∀ c ∈ B.c, c ≤ b) : ∀ (o : Oe) (e : E), o = .some e → SndE M xr T n b B e
  | .none, _, h => by cases h
  | .some x, e, h => by cases h; exact sndE hb hB x
theorem sndIt (hb : b ∈ B.c) (hB : ∀ c ∈ B.c, c ≤ b) : ∀ it : It, SndIt M xr T n b B it
  | .e a => snd_it_e (sndE hb hB a)
  | .rg1 a => snd_rg1 (sndE hb hB a)
  | .rg2 a c => snd_rg2 (sndE hb hB a) (sndE hb hB c)
  | .rgd a c => snd_rgd (sndE hb hB a) (sndE hb hB c)
end
end
end Ev

/-! EvL: statements (matS, sndS). -/
namespace Ev
open PySem PySem.Spec L2
variable [Wd]

def notLC : Expr → Bool
  | .ListComp _ _ _ _ => false
  | .SetComp _ _ _ _ => false
  | .DictComp _ _ _ _ _ => false
  | _ => true
def isName : Expr → Bool
  | .Name _ _ => true
  | _ => false
def notTup : Expr → Bool
  | .Tuple _ _ _ => false
  | _ => true
/-- a comprehension that is stored in its own way -/
def swaps (sc : Scope) (tg p : Expr) : Bool := match p, tg with
  | .ListComp _ _ scope pos, .Name y py => (match sc.kind with | .function => true | _ => false) && decide (sc.names.lookup y = some .local) && (py.line == pos.line) && !(scope.names.any fun (n, k) => n == y && (k == .local || k == .cell))
  | _, _ => false
def swaps0 (sc : Scope) (tg p : Expr) : Bool := match p, tg with
  | .ListComp _ _ scope pos, .Name y py => (sc.kind == .function && sc.names.lookup y == some .local && py.line == pos.line && !(scope.names.any fun (n, k) => n == y && (k == .local || k == .cell)))
  | _, _ => false

def subOf : Expr → Option (Expr × Expr)
  | .Subscript po pi _ => some (po, pi)
  | _ => none
/-- raise C(e, ..) -/
def raisOfM : Stmt → Option (Str × Pos × Pos × Pos × Expr × List Expr)
  | .Raise (some (.Call (.Name x p1) (p :: ps) [] p2)) none pos => some (x, p1, p2, pos, p, ps)
  | _ => none
theorem raisOfM_ok {q : Stmt} {x : Str} {p1 p2 pos : Pos} {p : Expr} {ps : List Expr} (h : raisOfM q = some (x, p1, p2, pos, p, ps)) : q = .Raise (some (.Call (.Name x p1) (p :: ps) [] p2)) none pos := by
  unfold raisOfM at h
  split at h
  · simp only [Option.some.injEq, Prod.mk.injEq] at h
    obtain ⟨rfl, rfl, rfl, rfl, rfl, rfl⟩ := h
    rfl
  · cases h
/-- an own class with an own __init__ -/
def clsIni (M : ME) (c : Nat) (x : Str) (g : Mg) (k : Nat) : Bool := match M.cls[c]? with
  | some d => decide (d.nm = x) && d.own && decide (0 < k) && decide (k ≤ 900) && decide (k = d.fl.length) && (match d.ini with
    | some i => i.mg.same g
    | none => false)
  | none => false
/-- an own class without fields -/
def clsNo (M : ME) (c : Nat) (x : Str) : Bool := match M.cls[c]? with
  | some d => decide (d.nm = x) && d.own && d.fl.isEmpty
  | none => false
def raiseOf : Expr → Option Str
  | .Call (.Name x _) [] [] _ => some x
  | _ => none
def raisOf : Stmt → Option Str
  | .Raise (some p) none _ => raiseOf p
  | _ => none
def Es.isNil : Es → Bool
  | .nil => true
  | _ => false
def hdOf : ExceptHandler → Option (Expr × Option Str × List Stmt)
  | .ExceptHandler (some hx) n ps _ => some (hx, n, ps)
  | _ => none
def tryOf : Stmt → Option (List Stmt × Str × Option Str × List Stmt)
  | .Try pb [h] [] [] _ => match hdOf h with
    | some (.Name z _, n, p :: ps) => some (pb, z, n, p :: ps)
    | _ => none
  | _ => none
theorem tryOf_ok {q : Stmt} {pb ps : List Stmt} {z : Str} {n : Option Str} (h : tryOf q = some (pb, z, n, ps)) : ∃ (pos pos2 pz : Pos) (p : Stmt) (r : List Stmt), q = .Try pb [.ExceptHandler (some (.Name z pz)) n (p :: r) pos2] [] [] pos ∧ ps = p :: r := by
  cases q <;> try (simp [tryOf] at h; done)
  rename_i pb' hs oe fin pos
  rcases hs with _ | ⟨hd, _ | ⟨h2, hs⟩⟩ <;> try (simp [tryOf] at h; done)
  cases oe <;> try (simp [tryOf] at h; done)
  cases fin <;> try (simp [tryOf] at h; done)
  obtain ⟨hx, n0, qs, pos2⟩ := hd
  cases hx with
  | none => simp [tryOf, hdOf] at h
  | some hx =>
    cases hx <;> try (simp [tryOf, hdOf] at h; done)
    cases qs with
    | nil => simp [tryOf, hdOf] at h
    | cons p qs =>
      simp only [tryOf, hdOf, Option.some.injEq, Prod.mk.injEq] at h
      obtain ⟨rfl, rfl, rfl, rfl⟩ := h
      exact ⟨_, _, _, _, _, rfl, rfl⟩
theorem raisOf_ok {q : Stmt} {x : Str} (h : raisOf q = some x) : ∃ pos p1 p2, q = .Raise (some (.Call (.Name x p1) [] [] p2)) none pos := by
  cases q <;> try (simp [raisOf] at h; done)
  rename_i p fr pos
  cases p <;> try (simp [raisOf] at h; done)
  rename_i p
  cases fr <;> try (simp [raisOf] at h; done)
  simp only [raisOf] at h
  cases p <;> try (simp [raiseOf] at h; done)
  rename_i pf ps kw pos2
  cases pf <;> try (simp [raiseOf] at h; done)
  cases ps <;> try (simp [raiseOf] at h; done)
  cases kw <;> simp only [raiseOf, reduceCtorEq, Option.some.injEq] at h
  subst h
  exact ⟨_, _, _, rfl⟩
def clsOwn (M : ME) (z : Str) (cs : List Nat) : Bool := M.cls.any fun d => decide (d.nm = z) && decide (d.subs = cs) && d.own
/-- the name of an except clause -/
def nmOk (M : ME) (sc : Scope) (kp : List Nat) : Option Nat → Option Str → Bool
  | none, none => true
  | some i, some y => isAt M.N i y && decide (sc.names.lookup y = some .local) && !kp.contains i
  | _, _ => false
def fldOf : Expr → Option (Expr × Str)
  | .Attribute po f _ => some (po, f)
  | _ => none
theorem fldOf_ok {q po : Expr} {f : Str} (h : fldOf q = some (po, f)) : ∃ ap, q = .Attribute po f ap := by
  cases q <;> simp only [fldOf, reduceCtorEq, Option.some.injEq, Prod.mk.injEq] at h
  obtain ⟨rfl, rfl⟩ := h
  exact ⟨_, rfl⟩
def appOf : Expr → Option (Expr × Str × Pos × Expr × Pos)
  | .Call (.Attribute po x ap) [p] [] cp => some (po, x, ap, p, cp)
  | _ => none
mutual
def matS (M : ME) (kp : List Nat) (sc : Scope) : S → Stmt → Bool
  | .bad, _ => true
  | .asg t u e, .Assign [tg] p _ => (M.cm || !u) && t.all (fun i => decide (M.xs ≠ some i)) && matT M.N (isSto sc) t u tg && t.all (fun i => !kp.contains i) && matE M sc e p && (isName tg || notTup p) && (swaps sc tg p || notLC p || !swaps0 sc tg p)
  | .set o i e, .Assign [tg] p _ => match subOf tg with
    | some (po, pi) => notSlice pi && matE M sc o po && matE M sc i pi && matE M sc e p
    | none => false
  | .fst c o f e, .Assign [tg] p _ => match fldOf tg with
    | some (po, f') => decide (f = f') && oclFl M.toGE c f && matE M sc o po && matE M sc e p
    | none => false
  | .app o e, .Expr q _ => match appOf q with
    | some (po, x, ap, p, cp) => decide (x = "append") && notCall0 po && (ap.endLine == cp.line) && notStar p && matE M sc o po && matE M sc e p
    | none => false
  | .expr e, .Expr p _ => notLC p && matE M sc e p
  | .ret e, .Return (some p) _ => matE M sc e p
  | .retN, .Return none _ => true
  | .ifs c a b, .If p pa pb _ => notIf p && matE M sc c p && matSs M kp sc a pa && matSs M kp sc b pb
  | .forS t u it s, .For tg p ps [] _ => M.cm && matT M.N (isSto sc) t u tg && t.all (fun i => !kp.contains i) && notSet p && matIt M sc it p && matSs M kp sc s ps
  | .whl _ c s, .While p ps [] _ => notIf p && matE M sc c p && matSs M kp sc s ps
  | .pass, .Pass _ => true
  | .brk, .Break _ => true
  | .cnt, .Continue _ => true
  | .rais c es, p => M.cm && Es.isNil es && (match raisOf p with
    | some x => clsNo M c x && isGl sc x && plainN x
    | none => false)
  | .raism c g k es, p => M.cm && (match raisOfM p with
    | some (x, _, _, _, p, ps) => clsIni M c x g k && isGl sc x && plainN x && matEs M sc es (p :: ps)
    | none => false)
  | .tryS cs nm kp2 x y, p => M.cm && kp.all (fun i => kp2.contains i) && (match tryOf p with
    | some (pb, z, n, ps) => clsOwn M z cs && isGl sc z && plainN z && nmOk M sc kp nm n && matSs M kp2 sc x pb && matSs { M with xs := nm, cm := false } kp sc y ps
    | none => false)
  | _, _ => false
def matSs (M : ME) (kp : List Nat) (sc : Scope) : Ss → List Stmt → Bool
  | .nil, [] => true
  | .cons (.frz i) ss, ps => matSs M kp sc ss ps
  | .cons s ss, p :: ps => matS M kp sc s p && matSs M kp sc ss ps
  | _, _ => false
end

def Kp (kp : List Nat) (σ σ' : L2.St) : Prop := σ'.length = σ.length ∧ ∀ i ∈ kp, σ'[i]? = σ[i]?
theorem Kp.refl (kp : List Nat) (σ : L2.St) : Kp kp σ σ := ⟨rfl, fun _ _ => rfl⟩
theorem Kp.trans {kp : List Nat} {a b c : L2.St} (h : Kp kp a b) (g : Kp kp b c) : Kp kp a c := ⟨g.1.trans h.1, fun i hi => (g.2 i hi).trans (h.2 i hi)⟩
section
variable {K : PySem.W.Frag} {xr : XRel}
def PostS (K : PySem.W.Frag) (xr : XRel) (B : BB) (Wx : WX) (kp : List Nat) (m : List Addr) (F H : Hp) (σ : L2.St) (r : R Fl) (D : Ends) : Prop := match r with
  | .ok (.nx env') h' => ∀ m' F' H' σ', Ext m F H m' F' H' → SR K B m' F' env' h' σ' H' → Kp kp σ σ' → D.nx σ' H'
  | .ok (.bk env') h' => ∀ m' F' H' σ', Ext m F H m' F' H' → SR K B m' F' env' h' σ' H' → Kp kp σ σ' → D.bk σ' H'
  | .ok (.ct env') h' => ∀ m' F' H' σ', Ext m F H m' F' H' → SR K B m' F' env' h' σ' H' → Kp kp σ σ' → D.ct σ' H'
  | .ok (.rt w) h' => ∀ m' F' H' v, Ext m F H m' F' H' → HR K B.c m' F' h' H' → WR K m' F' v w → D.rt v H'
  | .ex c ds h' => ∀ m' F' H' cls dx σ', Ext m F H m' F' H' → HR K B.c m' F' h' H' → xr c ds cls dx F' H' → Kp kp σ σ' → Wx cls dx σ' H'
  | .bad => False
def tS (K : PySem.W.Frag) (xr : XRel) (B : BB) (Wx : WX) (kp : List Nat) (f : Vars → Hq → R Fl) : TS := fun D σ H => ∃ m F env h, SR K B m F env h σ H ∧ PostS K xr B Wx kp m F H σ (f env h) D
variable {B : BB} {Wx : WX} {kp : List Nat} {m m' : List Addr} {F F' H H' : Hp} {env : Vars} {h : Hq} {σ σ' : L2.St} {D : Ends}
theorem PostS.shift {r : R Fl} (p : PostS K xr B Wx kp m F H σ r D) (x : Ext m F H m' F' H') (k : Kp kp σ σ') : PostS K xr B Wx kp m' F' H' σ' r D := by
  cases r with
  | ok f h' =>
    cases f with
    | nx env => exact fun m2 F2 H2 σ2 e s q => p m2 F2 H2 σ2 (x.trans e) s (k.trans q)
    | bk env => exact fun m2 F2 H2 σ2 e s q => p m2 F2 H2 σ2 (x.trans e) s (k.trans q)
    | ct env => exact fun m2 F2 H2 σ2 e s q => p m2 F2 H2 σ2 (x.trans e) s (k.trans q)
    | rt w => exact fun m2 F2 H2 v e s q => p m2 F2 H2 v (x.trans e) s q
  | ex c ds h' => exact fun m2 F2 H2 cls dx σ2 e s y q => p m2 F2 H2 cls dx σ2 (x.trans e) s y (k.trans q)
  | bad => exact p
/-- an expression, then the rest of the statement -/
theorem PostS.bindE {α : Type} {r : R α} {f : α → Hq → R Fl} (p : PostS K xr B Wx kp m F H σ (r.bind f) D) : PostG K xr B Wx m F env σ H r (fun a h1 m1 F1 H1 => PostS K xr B Wx kp m1 F1 H1 σ (f a h1) D) := by
  cases r with
  | ok a h1 => exact fun m1 F1 H1 e s => PostS.shift p e (.refl ..)
  | ex c ds h1 => exact fun m1 F1 H1 cls dx e s y => p m1 F1 H1 cls dx σ e s y (.refl ..)
  | bad => exact p
theorem PostS.nx {env' : Vars} (p : PostS K xr B Wx kp m F H σ (.ok (.nx env') h) D) (s : SR K B m F env' h σ' H) (k : Kp kp σ σ') : D.nx σ' H := p m F H σ' (.refl ..) s k
end

theorem kp_set {kp : List Nat} {σ : L2.St} {i : Nat} {y : Option V} (h : kp.contains i = false) : Kp kp σ (σ.set i y) := by
  refine ⟨by simp, fun j hj => ?_⟩
  rw [List.getElem?_set_ne]
  intro e
  subst e
  rw [List.contains_iff_mem.mpr hj] at h
  cases h
theorem kp_sAll {kp : List Nat} : ∀ {t : List Nat} {xs : List V} {σ : L2.St}, t.all (fun i => !kp.contains i) = true → Kp kp σ (sAll t xs σ)
  | [], _, _, _ => by simp only [sAll]; exact .refl _ _
  | _ :: _, [], _, _ => by simp only [sAll]; exact .refl _ _
  | i :: is, x :: xs, σ, h => by
    simp only [sAll]
    simp only [List.all_cons, Bool.and_eq_true, Bool.not_eq_true'] at h
    exact (kp_set h.1).trans (kp_sAll h.2)
section
variable {K : PySem.W.Frag} {xr : XRel} {B : BB} {Wx : WX} {kp : List Nat} {m : List Addr} {F H : Hp} {env env' : Vars} {h : Hq} {σ : L2.St}
/-- a value comes to its slots -/
theorem bind_asg {t : List Nat} (hx : ∀ e, B.ex = some e → e.i ∉ t) {u : Bool} {w : W} {x : V} {Q : L2.St → Hp → Prop} (e : bindT t u w env = some env') (r : WR K m F x w) (s : SR K B m F env h σ H) (hk : t.all (fun i => !kp.contains i) = true)
    (q : ∀ σ2, SR K B m F env' h σ2 H → Kp kp σ σ2 → Q σ2 H) : gT K t u x σ H Q := by
  unfold bindT at e
  split at e
  · split at e
    · rename_i i
      cases e
      exact q _ (s.setv (fun e he z => hx e he (by rw [z]; exact List.mem_cons_self)) r) (by simp only [List.all_cons, List.all_nil, Bool.and_true, Bool.not_eq_true'] at hk; exact kp_set hk)
    · cases e
  · split at e
    · rename_i xs
      split at e
      · rename_i hl
        cases e
        obtain ⟨a, us, rfl, sq, d⟩ : ∃ a us, x = .ref a ∧ SqT K F a us ∧ DpAll K F us xs := by
          have r : Dp K F x (.tuple xs) := r
          cases r with
          | tup h1 h2 => exact ⟨_, _, rfl, h1, h2⟩
        have hl' : us.length = t.length := by rw [d.length]; exact hl
        exact .inl ⟨a, us, rfl, s.hr.sub.sqt sq, hl', gNames_ok hl' (q _ (SR.setAll hx s (WRs.ofD d)) (kp_sAll hk))⟩
      · cases e
    · rename_i xs
      split at e
      · rename_i hl
        cases e
        obtain ⟨a, us, rfl, sq, d⟩ : ∃ a us, x = .ref a ∧ SqL K F a us ∧ DpAll K F us xs := by
          have r : Dp K F x (.list xs) := r
          cases r with
          | lst h1 h2 => exact ⟨_, _, rfl, h1, h2⟩
        have hl' : us.length = t.length := by rw [d.length]; exact hl
        exact .inr ⟨a, us, rfl, s.hr.sub.sql sq, hl', gNames_ok hl' (q _ (SR.setAll hx s (WRs.ofD d)) (kp_sAll hk))⟩
      · cases e
    · cases e
end

section
variable {M : ME} {xr : XRel} {T : List FD} {n b : Nat} {B : BB}
/-- a def's body: what leaves it -/
structure XOk2 (X : Cx) (Wx : WX) (M : ME) (xr : XRel) (T : List FD) (n : Nat) (B : BB) (sc : Scope) : Prop extends XOk X Wx M xr T n B sc where
  po : PassesOwn (model X.prog X.w) X.A X.env X.xe
  fn : ∀ x, X.fn x = true
  kd : sc.kind = .function
  stk : X.stack = X.env :: X.outer
  frm : X.env.frame = some X.env.locals
def SndS (M : ME) (xr : XRel) (T : List FD) (n b : Nat) (B : BB) (s : S) : Prop := ∀ (X : Cx) (Wx : WX) (sc : Scope) (kp : List Nat) (p : Stmt), XOk2 X Wx M xr T n B sc → matS M kp sc s p = true → PS X p (tS X.K xr B Wx kp (evS b (callN T n) s))
def SndSs (M : ME) (xr : XRel) (T : List FD) (n b : Nat) (B : BB) (ss : Ss) : Prop := ∀ (X : Cx) (Wx : WX) (sc : Scope) (kp : List Nat) (ps : List Stmt), XOk2 X Wx M xr T n B sc → matSs M kp sc ss ps = true → PSs X ps (tS X.K xr B Wx kp (evSs b (callN T n) ss))

theorem bindS {K : PySem.W.Frag} {Wx : WX} {kp : List Nat} {ra : Vars → Hq → R W} {g : Vars → W → Hq → R Fl} {σ : L2.St} {H : Hp} {D : Ends} {Q' : VK} (p : tS K xr B Wx kp (fun env h => (ra env h).bind (g env)) D σ H)
    (i : ∀ m F env h H w v, SR K B m F env h σ H → WR K m F v w → PostS K xr B Wx kp m F H σ (g env w h) D → Q' v H) : tE K xr B Wx ra σ H Q' := by
  obtain ⟨m, F, env, h, S, p⟩ := p
  exact ⟨m, F, env, h, S, (p.bindE (env := env)).mono fun w h1 m1 F1 H1 x1 S1 p v rv => i m1 F1 env h1 H1 w v S1 rv p⟩

theorem swap_no {sc : Scope} {tg p : Expr} {l : Nat} {env : Env} (hs : env.scope = sc) (h : notLC p = true ∨ swaps0 sc tg p = false) (hk : sc.kind = .function) (hp : ∀ g k s q, p ≠ .SetComp g k s q) (hp2 : ∀ g g' k s q, p ≠ .DictComp g g' k s q) : swapsWithSole [tg] p l env = pure false := by
  show swapsWith p (some tg) l env = pure false
  have bk : env.blockKind = .function := by unfold Env.blockKind; rw [hs, hk]; rfl
  cases p <;> try rfl
  case SetComp => exact absurd rfl (hp _ _ _ _)
  case DictComp => exact absurd rfl (hp2 _ _ _ _ _)
  case ListComp g k s q =>
    rcases h with h | h
    · simp [notLC] at h
    · cases tg <;> try rfl
      rename_i y py
      simp only [swaps0] at h
      unfold swapsWith
      simp only [bk]
      have ek : env.kindOf y = sc.names.lookup y := by unfold Env.kindOf; rw [hs]
      rw [ek]
      rw [hk] at h
      show pure _ = pure false
      exact congrArg pure h
theorem mat_noset {sc : Scope} {e : E} {p : Expr} (h : matE M sc e p = true) : (∀ g k s q, p ≠ .SetComp g k s q) ∧ ∀ g g' k s q, p ≠ .DictComp g g' k s q := by
  refine ⟨fun g k s q z => ?_, fun g g' k s q z => ?_⟩
  · subst z; cases e <;> simp [matE, noSC] at h
  · subst z; cases e <;> simp [matE, noSC] at h
end
end Ev

/-! EvM: every statement (sndS). -/
namespace Ev
open PySem PySem.Spec PyProof.Rows L2
variable [Wd]
section
variable {M : ME} {xr : XRel} {T : List FD} {n b : Nat} {B : BB} (hb : b ∈ B.c) (hB : ∀ c ∈ B.c, c ≤ b)
theorem sto_all {X : Cx} {Wx : WX} {sc : Scope} (k : XOk2 X Wx M xr T n B sc) {x : Str} (h : isSto sc x = true) : Loc X.env.scope x ∧ (X.fn x = true ∨ X.env.scope.names.lookup x = some .local) := by
  rw [k.hs]
  exact ⟨sto_of h, .inl (k.fn x)⟩
omit hb hB in
/-- o[i] = v: a list, a dict -/
def rSetG (K : PySem.W.Frag) : V → V → V → Hp → (Hp → Prop) → Prop := fun o i v H Q => rSetL o i v H Q ∨ (∃ a vs k, o = .ref a ∧ i = .int k ∧ H a = some (.dK vs) ∧ vs.length ≤ 1000000 ∧ vs.length < 1000000 ∧ Q (upd H a (.dK (putK vs (.inl k) v)))) ∨ ∃ a es kvs F d nk y b, o = .ref a ∧ i = .ref b ∧ HpLe F H ∧ H a = some (dctO a es) ∧ DK K F kvs es ∧ (es.map (·.1)).Nodup ∧ (a == sysModules) = false ∧ kvs.length < 1000000 ∧
  Dp K F (.ref b) d ∧ nkey d = some nk ∧ d.depth ≤ 8 ∧ Dp K F v y ∧ ∀ es', DK K F (dput kvs d y) es' → (es'.map (·.1)).Nodup → Q (upd H a (dctO a es'))
omit hb hB in
theorem set_G {X : Cx} (hw : X.w = Wd.w) (hu : X.A.units + 200 < cLine) : PSet X (rSetG X.K) := by
  intro pins s σ H o i v ov iv u Q I ro ri rv hq
  rcases hq with hq | ⟨a, vs, k, rfl, rfl, eH, _, hl, q⟩ | ⟨a, es, kvs, F, d, nk, y, b, rfl, rfl, le, eH, dk, nd, hz, hl, di, ek, hd, dv, q⟩
  · exact L2.set_list pins s σ H o i v ov iv u Q I ro ri rv hq
  · cases ro
    have szE := sizeLine_eq
    exact d_setItem (by show X.A.units + 1 < cLine; omega) I (DPut.k (k := .inl k) eH (by omega)) ri rv fun s' I' => ⟨_, I', q⟩
  · cases ro
    cases ri
    have dd := dk_of hw I le eH dk nd
    have len := dk.length
    have szE := sizeLine_eq
    refine wpAny_setItem_heap (hsz := by omega) (dk_room hu) (dk_is I le ek hd di) dd fun h' dd' hs => ?_
    obtain ⟨ob, _, _, hob, _⟩ := id dd'
    refine ⟨_, d_write I (by rw [eH]; exact True.intro) hs ⟨ob, hob⟩ (dk_ok hw dd'), q _ (dk.put ek hd di rv dv) ?_⟩
    obtain ⟨_, _, _, _, _, _, _, _, n⟩ := dd'
    exact n
theorem assignOne {tg : Expr} {env : Env} (h : ∀ e p, tg ≠ .Starred e p) : (assignEach [tg] env).map (·.2) = [assign tg env] := by
  cases tg <;> first | rfl | exact absurd rfl (h _ _)
include hb hB
theorem snd_asg {t : List Nat} {u : Bool} {e : E} : SndS M xr T n b B (.asg t u e) := by
  intro X Wx sc kp p k h
  cases p <;> try (simp only [matS, Bool.false_eq_true] at h; done)
  rename_i tgs p pos
  rcases tgs with _ | ⟨tg, _ | ⟨tg2, tgs⟩⟩ <;> try (simp [matS] at h; done)
  simp only [matS, Bool.and_eq_true] at h
  obtain ⟨⟨⟨⟨⟨⟨hcu, hxs⟩, h1⟩, h2⟩, h3⟩, h4⟩, h5⟩ := h
  have hx : ∀ e, B.ex = some e → e.i ∉ t := fun e he hi => by
    have := List.all_eq_true.mp hxs _ hi
    rw [decide_eq_true_eq, k.xs, he] at this
    exact this rfl
  have hg : PG X tg (gT X.K t u) := pg_T (fun z => k.clm (by rw [z] at hcu; simpa using hcu)) k.hN k.nd (fun x hx => sto_all k hx) h1
  have rd : ∀ {D σ H}, tS X.K xr B Wx kp (evS b (callN T n) (.asg t u e)) D σ H → tAsg (tE X.K xr B Wx (evE b (callN T n) e)) (gT X.K t u) D σ H := fun {D σ H} q => by
    simp only [tS, evS] at q
    refine bindS (ra := evE b (callN T n) e) q fun m F env hq H w v S r q => ?_
    split at q
    · rename_i env2 hb2
      exact bind_asg hx hb2 r S h2 fun σ2 S2 k2 => PostS.nx q S2 k2
    · exact q.elim
  by_cases hw : swaps sc tg p = true
  · -- stored as it is made
    cases p <;> try (simp [swaps] at hw; done)
    rename_i pe gs scope pos2
    cases tg <;> try (simp [swaps] at hw; done)
    rename_i y py
    have h3' := h3
    simp only [swaps, Bool.and_eq_true, decide_eq_true_eq, Bool.not_eq_true'] at hw
    obtain ⟨⟨⟨w1, w2⟩, w3⟩, w4⟩ := hw
    obtain ⟨i, rfl, rfl, hi⟩ : ∃ i, t = [i] ∧ u = false ∧ M.N[i]? = some y := by
      unfold matT at h1
      split at h1
      · rename_i i x pos heq
        cases heq
        simp only [Bool.and_eq_true, isAt, decide_eq_true_eq] at h1
        exact ⟨i, rfl, rfl, h1.1⟩
      · rename_i heq; cases heq
      · cases h1
    have hl : X.env.scope.names.lookup y = some .local := by rw [k.hs]; exact w2
    cases e <;> try (simp [matE, noSC] at h3; done)
    · rename_i kk t2 u2 it c e
      rcases gs with _ | ⟨⟨tg2, pi, ifs, a⟩, _ | ⟨g2, gs⟩⟩ <;> try (simp [matE] at h3; done)
      obtain ⟨hcm, rfl, L⟩ := lc_ok k.toXOk (sndIt hb hB it) (sndOe hb hB c) (sndE hb hB e) h3'
      refine (ps_setLc (i := i) (k.clm hcm) k.nd (by rw [k.hN]; exact hi) hl (sw_true (by rw [k.hs]; exact k.kd) hl w3 w4) L.hi L.ok L.hg L.ht L.he L.hs).weak fun D σ H q => ?_
      have q' := rd q
      unfold tAsg at q' ⊢
      rw [L.hm]
      exact lc_ev (k.noex hcm) L.hne q'
    · rename_i t2 u2 it t3 u3 it3 e
      obtain ⟨hcm, tg2, pi, tg3, pi3, rfl, L⟩ := lc2_ok k.toXOk (sndIt hb hB it) (sndIt hb hB it3) (sndE hb hB e) h3'
      refine (ps_setLc2 (i := i) (k.clm hcm) k.nd (by rw [k.hN]; exact hi) hl (sw_true (by rw [k.hs]; exact k.kd) hl w3 w4) L.hi L.ok L.hv L.hg L.ht L.hi1 L.hg1 L.ht L.he L.hs L.hs1).weak fun D σ H q => ?_
      have q' := rd q
      unfold tAsg at q' ⊢
      rw [L.hm]
      exact lc2_ev (k.noex hcm) L.hne L.hne1 q'
  · have ns := mat_noset h3
    refine (ps_asg (sndE hb hB e X Wx sc p k.toXOk h3).pe hg ?_ ?_ ?_).weak fun D σ H q => rd q
    · refine swap_no k.hs ?_ k.kd ns.1 ns.2
      simp only [Bool.or_eq_true, Bool.not_eq_true'] at h5
      rcases h5 with (h5 | h5) | h5
      · exact absurd h5 hw
      · exact .inl h5
      · exact .inr h5
    · have hnl : ∀ ps q, tg ≠ .List ps q := fun ps q z => by
        subst z
        cases u <;> rcases t with _ | ⟨i, _ | ⟨j, t⟩⟩ <;> simp [matT] at h1
      unfold swappedStores
      simp only [Bool.or_eq_true] at h4
      rcases h4 with h4 | h4
      · cases tg <;> first | rfl | (simp [isName] at h4)
      · cases tg
        case List => exact absurd rfl (hnl _ _)
        case Tuple => cases p <;> first | rfl | (simp [notTup] at h4)
        all_goals rfl
    · exact assignOne fun a b z => by subst z; simp [matT] at h1
theorem snd_set {o i e : E} : SndS M xr T n b B (.set o i e) := by
  intro X Wx sc kp p k h
  cases p <;> try (simp only [matS, Bool.false_eq_true] at h; done)
  rename_i tgs p pos
  rcases tgs with _ | ⟨tg, _ | ⟨tg2, tgs⟩⟩ <;> try (simp [matS] at h; done)
  simp only [matS] at h
  cases tg <;> try (simp [subOf] at h; done)
  rename_i po pi pos2
  simp only [subOf, Bool.and_eq_true] at h
  obtain ⟨⟨⟨h1, h2⟩, h3⟩, h4⟩ := h
  have ns := mat_noset h4
  have ha : ∀ v, assign (.Subscript po pi pos2) X.env v = (do
      let ov ← holding [v] (eval po X.env)
      let iv ← holding [v, ov] (eval pi X.env)
      standAt pos2
      holding [v, ov, iv] (setItem ov iv v)
      release [v, ov, iv] []) := by
    intro v
    cases pi <;> first | rfl | (simp [notSlice] at h1)
  refine (ps_asg (sndE hb hB e X Wx sc p k.toXOk h4).pe (pg_sub (sndE hb hB o X Wx sc po k.toXOk h2).pe (sndE hb hB i X Wx sc pi k.toXOk h3).pe (set_G k.hw k.hu) ha) (swap_no k.hs ?_ k.kd ns.1 ns.2) ?_ rfl).weak fun D σ H q => ?_
  · cases p <;> first | exact .inl rfl | exact .inr rfl
  · rfl
  · simp only [tS, evS] at q
    obtain ⟨m, F, env, h, S, p⟩ := q
    refine ⟨m, F, env, h, S, (p.bindE (env := env)).mono fun w h1 m1 F1 H1 x1 S1 p1 v rv => ⟨m1, F1, env, h1, S1, (p1.bindE (env := env)).mono fun w2 h2 m2 F2 H2 x2 S2 p2 v2 rv2 => ⟨m2, F2, env, h2, S2, (p2.bindE (env := env)).mono fun w3 h3 m3 F3 H3 x3 S3 p3 v3 rv3 => ?_⟩⟩⟩
    clear p p1 p2
    replace rv := wr_mono (x2.trans x3).ml (x2.trans x3).sub rv
    replace rv2 := wr_mono x3.ml x3.sub rv2
    unfold evSet at p3
    split at p3
    · rename_i nn kk
      obtain ⟨a, em, rfl⟩ := rv2
      have rv3 : Dp X.K F3 v3 (.int kk) := rv3
      cases rv3
      split at p3
      · rename_i xs eo
        obtain ⟨fa, vs, eH, dd⟩ := S3.hr.ob nn _ a eo em
        split at p3
        · rename_i j x ej
          have rv : Dp X.K F3 v x := rv
          refine .inl ⟨a, vs, kk, j, rfl, rfl, eH, by rw [dd.length]; exact ej, ?_⟩
          obtain ⟨r', e'⟩ := S3.hr.put (u := .lst (vs.set j v)) (o := .lst (xs.set j x)) em fa ⟨fa, _, upd_same, dd.set rv j⟩ (fun c _ _ k hk => by simp [refs] at hk)
          exact p3 _ _ _ _ e' (S3.ext r' e') (.refl ..)
        · exact p3.elim
      · rename_i ws eo
        obtain ⟨fa, vs, eH, dd⟩ := S3.hr.ob nn _ a eo em
        split at p3
        · rename_i j ej
          have go : (∀ c ∈ B.c, nn < c → ∀ k ∈ refs (.lsw (ws.set j w)), k < c) → PostS X.K xr B Wx kp m3 F3 H3 σ (.ok (.nx env) (h3.set nn (.lsw (ws.set j w)))) D → rSetG X.K (.ref a) (.int kk) v H3 fun H4 => D.nx σ H4 := fun hc p3 => by
            refine .inl ⟨a, vs, kk, j, rfl, rfl, eH, by rw [dd.length]; exact ej, ?_⟩
            obtain ⟨r', e'⟩ := S3.hr.put (u := .lst (vs.set j v)) (o := .lsw (ws.set j w)) em fa ⟨fa, _, upd_same, dd.set rv j⟩ hc
            exact p3 _ _ _ _ e' (S3.ext r' e') (.refl ..)
          have old : ∀ c ∈ B.c, nn < c → ∀ (w' : W), refsW w' = [] ∨ c ≤ b → (∀ q, w' = .l q → c ≤ nn) → ∀ k ∈ refs (.lsw (ws.set j w')), k < c := fun c hc hn w' _ h' k hk => by
            obtain ⟨_, c2⟩ := S3.hr.clo c hc
            simp only [refs, List.mem_flatMap] at hk
            obtain ⟨y, hy, hk⟩ := hk
            rcases List.mem_or_eq_of_mem_set hy with hy | rfl
            · exact c2 nn _ k hn eo (by simp only [refs, List.mem_flatMap]; exact ⟨y, hy, hk⟩)
            · cases y with
              | d _ => simp [refsW] at hk
              | x _ _ => simp [refsW] at hk
              | l q => exact absurd (h' q rfl) (by omega)
          cases w with
          | x _ _ => exact p3.elim
          | d x => exact go (fun c hc hn => old c hc hn _ (.inl rfl) (fun q z => nomatch z)) p3
          | l q =>
            simp only at p3
            split at p3
            · rename_i hle
              exact go (fun c hc hn => old c hc hn _ (.inr (hB c hc)) (fun q z => Nat.le_trans (hB c hc) hle)) p3
            · exact p3.elim
        · exact p3.elim
      · rename_i kvs eo
        obtain ⟨fa, vs, eH, di, hl⟩ := S3.hr.ob nn _ a eo em
        cases w with
        | l _ => exact p3.elim
        | x _ _ => exact p3.elim
        | d x =>
          simp only at p3
          split at p3
          · rename_i hlt
            have rv : Dp X.K F3 v x := rv
            have ln := di.length
            refine .inr (.inl ⟨a, vs, kk, rfl, rfl, eH, by omega, by omega, ?_⟩)
            have lput : (iput kvs kk x).length ≤ 1000000 := by
              unfold iput
              split
              · rw [List.length_map]; omega
              · rw [List.length_append]; simp; omega
            obtain ⟨r', e'⟩ := S3.hr.put (u := .dK (putK vs (.inl kk) v)) (o := .dki (iput kvs kk x)) em fa ⟨fa, _, upd_same, di.put kk rv, lput⟩ (fun c _ _ k hk => by simp [refs] at hk)
            exact p3 _ _ _ _ e' (S3.ext r' e') (.refl ..)
          · exact p3.elim
      · exact p3.elim
    · rename_i nn kk _
      obtain ⟨a, em, rfl⟩ := rv2
      have rv3 : Dp X.K F3 v3 kk := rv3
      split at p3
      · rename_i kvs eo
        obtain ⟨fa, es, eH, dk, nd, hz, hl⟩ := S3.hr.ob nn _ a eo em
        cases w with
        | l _ => exact p3.elim
        | x _ _ => exact p3.elim
        | d x =>
          simp only at p3
          split at p3
          · rename_i hk
            simp only [Bool.and_eq_true, decide_eq_true_eq] at hk
            obtain ⟨ks, nk, rfl, ek, hd⟩ := isKey_ok hk.1
            have rv : Dp X.K F3 v x := rv
            obtain ⟨b', rfl⟩ : ∃ b', v3 = .ref b' := by
              cases rv3 with
              | tup _ _ => exact ⟨_, rfl⟩
            refine .inr (.inr ⟨a, es, kvs, F3, .tuple ks, nk, x, b', rfl, rfl, S3.hr.sub, eH, dk, nd, hz, hk.2, rv3, ek, hd, rv, fun es' dk' nd' => ?_⟩)
            have lput : (dput kvs (.tuple ks) x).length ≤ 1000000 := by
              unfold dput
              split
              · rw [List.length_map]; omega
              · rw [List.length_append]; simp; omega
            obtain ⟨r', e'⟩ := S3.hr.put (u := dctO a es') (o := .dct (dput kvs (.tuple ks) x)) em fa ⟨fa, es', upd_same, dk', nd', hz, lput⟩ (fun c _ _ k hk => by simp [refs] at hk)
            exact p3 _ _ _ _ e' (S3.ext r' e') (.refl ..)
          · exact p3.elim
      · exact p3.elim
    · exact p3.elim
theorem snd_app {o e : E} : SndS M xr T n b B (.app o e) := by
  intro X Wx sc kp p k h
  cases p <;> try (simp only [matS, Bool.false_eq_true] at h; done)
  rename_i pe pos
  simp only [matS] at h
  cases pe <;> try (simp [appOf] at h; done)
  rename_i pf ps kw cp
  cases pf <;> try (simp [appOf] at h; done)
  rename_i po x ap
  rcases ps with _ | ⟨p, _ | ⟨p2, ps⟩⟩ <;> try (simp [appOf] at h; done)
  cases kw <;> try (simp [appOf] at h; done)
  simp only [appOf, Bool.and_eq_true, decide_eq_true_eq] at h
  obtain ⟨⟨⟨⟨⟨rfl, h0⟩, hl⟩, hn⟩, h1⟩, h2⟩ := h
  have a := (sndE hb hB o X Wx sc po k.toXOk h1).pe
  have c := (sndE hb hB e X Wx sc p k.toXOk h2).pe
  have hbase : attributeBase po "append" X.env (eval po X.env) = eval po X.env := by
    unfold attributeBase
    cases po <;> try rfl
    rename_i g as kws ps
    cases g <;> try rfl
    cases as <;> try rfl
    cases kws <;> try rfl
    simp [notCall0] at h0
  have hs := star1 (env := X.env) (ps := []) hn
  refine (ps_expr (pe_bm PySem.F.plainAttrs_list PySem.F.slot_list_append PySem.F.type_list_append mt_append a (pa_cons c pa_nil hs) hbase (by rw [hs]; rfl) hl hs rfl)).weak fun D σ H q => ?_
  simp only [tS, evS] at q
  obtain ⟨m, F, env, h, S, p0⟩ := q
  refine ⟨m, F, env, h, S, (p0.bindE (env := env)).mono fun w h1 m1 F1 H1 x1 S1 p1 v rv => ?_⟩
  clear p0
  split at p1
  · rename_i hrec
    unfold recvL at hrec
    split at hrec
    · rename_i nn
      obtain ⟨al, em, rfl⟩ := rv
      have ty : ∃ xs, SqL X.K H1 al xs := by
        split at hrec
        · rename_i eo
          obtain ⟨_, vs, eH, _⟩ := S1.hr.ob nn _ al eo em
          exact ⟨vs, .of eH⟩
        · rename_i eo
          obtain ⟨_, vs, eH, _⟩ := S1.hr.ob nn _ al eo em
          exact ⟨vs, .of eH⟩
        · cases hrec
      refine ⟨.inl ⟨rfl, ty⟩, m1, F1, env, h1, S1, (p1.bindE (env := env)).mono fun w2 h2 m2 F2 H2 x2 S2 p2 v2 rv2 => ?_⟩
      clear p1
      have em := x2.ml.get em
      simp only [evApp] at p2
      have szE := sz_eq
      split at p2
      · rename_i xs eo
        obtain ⟨fa, vs, eH, dd⟩ := S2.hr.ob nn _ al eo em
        split at p2
        · rename_i x
          split at p2
          · rename_i hlt
            have rv2 : Dp X.K F2 v2 x := rv2
            refine ⟨al, vs, v2, rfl, rfl, eH, by rw [dd.length]; omega, ?_⟩
            obtain ⟨r', e'⟩ := S2.hr.put (u := .lst (vs ++ [v2])) (o := .lst (xs ++ [x])) em fa ⟨fa, _, upd_same, dd.app (.cons rv2 .nil)⟩ (fun c _ _ k hk => by simp [refs] at hk)
            exact p2 _ _ _ _ e' (S2.ext r' e') (.refl ..)
          · exact p2.elim
        · exact p2.elim
      · rename_i ws eo
        obtain ⟨fa, vs, eH, dd⟩ := S2.hr.ob nn _ al eo em
        have go : ws.length < SZ → (∀ c ∈ B.c, nn < c → ∀ k ∈ refs (.lsw (ws ++ [w2])), k < c) → PostS X.K xr B Wx kp m2 F2 H2 σ (.ok (.nx env) (h2.set nn (.lsw (ws ++ [w2])))) D → rAppend (.ref al) [v2] H2 fun _ H4 => D.nx σ H4 := fun hlt hc p2 => by
          refine ⟨al, vs, v2, rfl, rfl, eH, by rw [dd.length]; omega, ?_⟩
          obtain ⟨r', e'⟩ := S2.hr.put (u := .lst (vs ++ [v2])) (o := .lsw (ws ++ [w2])) em fa ⟨fa, _, upd_same, dd.app (.cons rv2 .nil)⟩ hc
          exact p2 _ _ _ _ e' (S2.ext r' e') (.refl ..)
        have old : ∀ c ∈ B.c, nn < c → (∀ q, w2 = .l q → c ≤ nn) → ∀ k ∈ refs (.lsw (ws ++ [w2])), k < c := fun c hc hn' h' k hk => by
          obtain ⟨_, c2⟩ := S2.hr.clo c hc
          simp only [refs, List.mem_flatMap] at hk
          obtain ⟨y, hy, hk⟩ := hk
          rcases List.mem_append.mp hy with hy | hy
          · exact c2 nn _ k hn' eo (by simp only [refs, List.mem_flatMap]; exact ⟨y, hy, hk⟩)
          · have hy : y = w2 := by simpa using hy
            subst hy
            cases y with
            | d _ => simp [refsW] at hk
            | x _ _ => simp [refsW] at hk
            | l q => exact absurd (h' q rfl) (by omega)
        cases w2 with
        | x _ _ => exact p2.elim
        | d x =>
          simp only at p2
          split at p2
          · rename_i hlt
            exact go hlt (fun c hc hn' => old c hc hn' (fun q z => nomatch z)) p2
          · exact p2.elim
        | l q =>
          simp only at p2
          split at p2
          · rename_i hlt
            exact go hlt.1 (fun c hc hn' => old c hc hn' (fun q z => Nat.le_trans (hB c hc) hlt.2)) p2
          · exact p2.elim
      · exact p2.elim
    · cases hrec
  · exact p1.elim
theorem snd_fst {c : Nat} {o : E} {f : Str} {e : E} : SndS M xr T n b B (.fst c o f e) := by
  intro X Wx sc kp p k h
  cases p <;> try (simp only [matS, Bool.false_eq_true] at h; done)
  rename_i tgs p pos
  rcases tgs with _ | ⟨tg, _ | ⟨t2, tgs⟩⟩ <;> try (simp [matS] at h; done)
  simp only [matS] at h
  split at h
  · rename_i po f' ef
    obtain ⟨ap, rfl⟩ := fldOf_ok ef
    simp only [Bool.and_eq_true, decide_eq_true_eq] at h
    obtain ⟨⟨⟨rfl, h0⟩, h1⟩, h2⟩ := h
    have a := (sndE hb hB o X Wx sc po k.toXOk h1).pe
    have v := (sndE hb hB e X Wx sc p k.toXOk h2).pe
    obtain ⟨n1, n2⟩ := mat_noset h2
    have sz : swaps0 sc (.Attribute po f ap) p = false := by cases p <;> rfl
    have sw0 : swapsWithSole [Expr.Attribute po f ap] p pos.line X.env = pure false := swap_no (sc := sc) k.hs (.inr sz) k.kd n1 n2
    have sw : swapsWith p (some (.Attribute po f ap)) pos.line X.env = pure false := sw0
    obtain ⟨d, ed, hf⟩ : ∃ d, M.ocl[c]? = some d ∧ f ∈ d.fl := by
      unfold oclFl at h0
      split at h0
      · rename_i d ed
        exact ⟨d, ed, List.contains_iff_mem.mp h0⟩
      · cases h0
    have O := k.ocs c d ed
    refine (ps_fld a v sw).weak fun D σ H q => ?_
    simp only [tS, evS] at q
    obtain ⟨m, F, env, h, S, p0⟩ := q
    refine ⟨m, F, env, h, S, (p0.bindE (env := env)).mono fun w h1 m1 F1 H1 x1 S1 p1 y ry => ?_⟩
    clear p0
    refine ⟨m1, F1, env, h1, S1, (p1.bindE (env := env)).mono fun w2 h2 m2 F2 H2 x2 S2 p2 z rz => ?_⟩
    clear p1
    have ry := wr_mono x2.ml x2.sub ry
    unfold evFst at p2
    split at p2
    · rename_i nn fs eo
      obtain ⟨rfl, eo2⟩ := objOf_ok eo
      obtain ⟨al, em, rfl⟩ := rz
      obtain ⟨fa, dx, vs, eH, rel⟩ := S2.hr.ob nn _ al eo2 em
      split at p2
      · rename_i hlt
        rw [O.ca] at eH
        have go : (∀ c' ∈ B.c, nn < c' → ∀ k ∈ refs (.obj c (putW f w fs)), k < c') → PostS X.K xr B Wx kp m2 F2 H2 σ ((R.ok () (h2.set nn (.obj c (putW f w fs)))).bind fun _ h => .ok (.nx env) h) D → ∃ a C dx fs, V.ref al = .ref a ∧ H2 a = some (.ins C dx fs) ∧ Cls X.K C ∧ NoAttr X.K C f ∧ fs.length < 1000 ∧ D.nx σ (upd H2 a (.ins C dx (L2.putF f y fs))) := fun hc p2 => by
          refine ⟨al, _, dx, vs, rfl, eH, O.cls, O.noat f hf, by rw [rel.length]; omega, ?_⟩
          obtain ⟨r', e'⟩ := S2.hr.put (u := .ins (He.ga X.K d.nm) dx (L2.putF f y vs)) (o := .obj c (putW f w fs)) em fa ⟨fa, dx, _, by rw [upd_same, O.ca], rel.put f ry⟩ hc
          exact p2 _ _ _ _ e' (S2.ext r' e') (.refl ..)
        have old : ∀ c' ∈ B.c, nn < c' → (∀ q, w = .l q → c' ≤ nn) → ∀ k ∈ refs (.obj c (putW f w fs)), k < c' := fun c' hc hn' h' k hk => by
          obtain ⟨_, c2⟩ := S2.hr.clo c' hc
          simp only [refs, List.mem_flatMap] at hk
          obtain ⟨q, hq, hk⟩ := hk
          rcases putW_mem f w fs q hq with e | e
          · rw [e] at hk
            cases w with
            | d _ => simp [refsW] at hk
            | x _ _ => simp [refsW] at hk
            | l q => exact absurd (h' q rfl) (by omega)
          · exact c2 nn _ k hn' eo2 (by simp only [refs, List.mem_flatMap]; exact ⟨q, e, hk⟩)
        cases w with
        | x _ _ => exact p2.elim
        | d x => exact go (fun c' hc hn' => old c' hc hn' (fun q z => nomatch z)) p2
        | l q =>
          simp only at p2
          split at p2
          · rename_i hlb
            exact go (fun c' hc hn' => old c' hc hn' (fun q z => Nat.le_trans (hB c' hc) hlb)) p2
          · exact p2.elim
      · exact p2.elim
    · exact p2.elim
  · cases h
omit hb hB in
theorem if_read {X : Cx} {Wx : WX} {kp : List Nat} {rc : Vars → Hq → R W} {r1 r2 : Vars → Hq → R Fl} {D : Ends} {σ : L2.St} {H : Hp} (q : tS X.K xr B Wx kp (fun env h => (rc env h).bind fun v h => match v with
      | .d (.bool true) => r1 env h
      | .d (.bool false) => r2 env h
      | _ => .bad) D σ H) : tIfS (tT X.K xr B Wx rc) (tS X.K xr B Wx kp r1) (tS X.K xr B Wx kp r2) D σ H := by
  obtain ⟨m, F, env, h, S, p⟩ := q
  refine ⟨m, F, env, h, S, (p.bindE (env := env)).mono fun w h1 m1 F1 H1 x1 S1 p1 => ?_⟩
  clear p
  split at p1
  · exact ⟨true, rfl, iteT ⟨m1, F1, env, h1, S1, p1⟩⟩
  · exact ⟨false, rfl, iteF ⟨m1, F1, env, h1, S1, p1⟩⟩
  · exact p1.elim
omit hb hB in
theorem kpt_ex {α : Type} {q : Option Nat} {h h' : Hq} {c : Nat} {ds : List PyData} : kpt q h (.ex c ds h' : R α) = .ex c ds h' := by cases q <;> rfl
omit hb hB in
theorem kpt_bad0 {α : Type} {q : Option Nat} {h : Hq} : kpt q h (.bad : R α) = .bad := by cases q <;> rfl
omit hb hB in
theorem kpt_cases {α : Type} {q : Option Nat} {h h' : Hq} {a : α} : (kpt q h (.ok a h') = .ok a h' ∧ kept q h h') ∨ kpt q h (.ok a h') = .bad := by
  cases q with
  | none => exact .inl ⟨rfl, trivial⟩
  | some n =>
    by_cases e : h'[n]? = h[n]?
    · exact .inl ⟨by simp only [kpt, R.bind, if_pos e], e⟩
    · exact .inr (by simp only [kpt, R.bind, if_neg e])
omit hb hB in
theorem kpt_bad {X : Cx} {Wx : WX} {kp : List Nat} {m : List Addr} {F H : Hp} {σ : L2.St} {D : Ends} {q : Option Nat} {h : Hq} {f : Fl → Hq → R Fl} (p : PostS X.K xr B Wx kp m F H σ ((kpt q h (.bad : R Fl)).bind f) D) : False := by
  rw [kpt_bad0] at p
  exact p
omit hb hB in
theorem for_read (hx0 : B.ex = none) {X : Cx} {Wx : WX} {kp : List Nat} {rit : Vars → Hq → R (List W × Option Nat)} {rb : Vars → Hq → R Fl} {t : List Nat} {u : Bool} {D : Ends} {σ : L2.St} {H : Hp} (hk : t.all (fun i => !kp.contains i) = true)
    (q : tS X.K xr B Wx kp (fun env h => (rit env h).bind fun ws h => forGo (fun w env h => kpt ws.2 h (match bindT t u w env with
      | some env => rb env h
      | none => .bad)) ws.1 env h) D σ H) : tFor (tI X.K xr B Wx rit) (gT X.K t u) (tS X.K xr B Wx kp rb) D σ H := by
  obtain ⟨m0, F0, env0, h0, S0, p⟩ := q
  refine ⟨m0, F0, env0, h0, S0, (p.bindE (env := env0)).mono fun wq h1 m1 F1 H1 x1 S1 p1 J hJ hwl => ?_⟩
  clear p
  obtain ⟨ws, qq⟩ := wq
  simp only at p1 hJ hwl
  refine ⟨fun i j σc H => j = ws.length - i ∧ i ≤ ws.length ∧ ∃ m F env h, Ext m1 F1 H1 m F H ∧ Kp kp σ σc ∧ SR X.K B m F env h σc H ∧ kept qq h1 h ∧ PostS X.K xr B Wx kp m F H σc (forGo (fun w env h => kpt qq h (match bindT t u w env with
      | some env => rb env h
      | none => .bad)) (ws.drop i) env h) D, ⟨ws.length, by simp, Nat.zero_le _, m1, F1, env0, h1, .refl .., .refl .., S1, .refl, p1⟩, ?_⟩
  rintro i j σc H ⟨rfl, hi, m, F, env, h, x, kk, S, hkp, p⟩
  obtain ⟨it1, it2⟩ := hJ B i m F h H x.ml x.sub S.hr hkp
  by_cases hlt : i < ws.length
  · have ed : ws.drop i = ws[i] :: ws.drop (i + 1) := List.drop_eq_getElem_cons hlt
    rw [ed] at p
    simp only [forGo] at p
    obtain ⟨go, yl⟩ := it1 ws[i] (by simp [hlt])
    refine .inr ⟨go, fun σ' H' => ∃ j', j' < ws.length - i ∧ j' = ws.length - (i + 1) ∧ i + 1 ≤ ws.length ∧ ∃ m F env h, Ext m1 F1 H1 m F H' ∧ Kp kp σ σ' ∧ SR X.K B m F env h σ' H' ∧ kept qq h1 h ∧ PostS X.K xr B Wx kp m F H' σ' (forGo (fun w env h => kpt qq h (match bindT t u w env with
      | some env => rb env h
      | none => .bad)) (ws.drop (i + 1)) env h) D, fun σ' H' n => ?_, fun y H' hy => ?_⟩
    · obtain ⟨j', a, b, c, d⟩ := n
      exact ⟨j', a, b, c, d⟩
    obtain ⟨eH, ry⟩ := yl y H' hy
    subst eH
    cases hbt : bindT t u ws[i] env with
    | none => rw [hbt] at p; exact (kpt_bad p).elim
    | some env2 =>
    rw [hbt] at p
    simp only at p
    refine bind_asg (kp := kp) (fun e he => by rw [hx0] at he; cases he) hbt ry S hk fun σ2 S2 k2 => ⟨m, F, env2, h, S2, ?_⟩
    have next : ∀ {env3 : Vars} {h3 : Hq}, kept qq h h3 → PostS X.K xr B Wx kp m F H' σc (forGo (fun w env h => kpt qq h (match bindT t u w env with
      | some env => rb env h
      | none => .bad)) (ws.drop (i + 1)) env3 h3) D → ∀ m' F' H3 σ', Ext m F H' m' F' H3 → SR X.K B m' F' env3 h3 σ' H3 → Kp kp σ2 σ' → ∃ j', j' < ws.length - i ∧ j' = ws.length - (i + 1) ∧ i + 1 ≤ ws.length ∧ ∃ m F env h, Ext m1 F1 H1 m F H3 ∧ Kp kp σ σ' ∧ SR X.K B m F env h σ' H3 ∧ kept qq h1 h ∧ PostS X.K xr B Wx kp m F H3 σ' (forGo (fun w env h => kpt qq h (match bindT t u w env with
      | some env => rb env h
      | none => .bad)) (ws.drop (i + 1)) env h) D := fun {env3 h3} hk3 p m' F' H3 σ' x3 S3 k3 =>
      ⟨ws.length - (i + 1), by omega, rfl, hlt, m', F', env3, h3, x.trans x3, kk.trans (k2.trans k3), S3, hkp.trans hk3, p.shift x3 (k2.trans k3)⟩
    cases hr : rb env2 h with
    | bad => rw [hr] at p; exact (kpt_bad p).elim
    | ex c ds h3 => rw [hr, kpt_ex] at p; exact p.shift (.refl ..) k2
    | ok f h3 =>
      rw [hr] at p
      rcases kpt_cases (q := qq) (h := h) (h' := h3) (a := f) with ⟨ek, hk3⟩ | ek
      rotate_left
      · rw [ek] at p; exact p.elim
      rw [ek] at p
      cases f with
      | nx env3 => exact next hk3 p
      | ct env3 => exact next hk3 p
      | bk env3 => exact PostS.shift (r := .ok (.nx env3) h3) p (.refl ..) k2
      | rt w => exact PostS.shift (r := .ok (.rt w) h3) p (.refl ..) k2
  · have ei : i = ws.length := by omega
    subst ei
    rw [List.drop_length] at p
    exact .inl ⟨it2 (Nat.le_refl _), PostS.nx p S (.refl ..)⟩
omit hb hB in
theorem whl_read {X : Cx} {Wx : WX} {kp : List Nat} {rc : Vars → Hq → R W} {rb : Vars → Hq → R Fl} {N : Nat} {D : Ends} {σ : L2.St} {H : Hp}
    (q : tS X.K xr B Wx kp (fun env h => whlGo rc rb N env h) D σ H) : tWhile (tT X.K xr B Wx rc) (tS X.K xr B Wx kp rb) D σ H := by
  obtain ⟨m0, F0, env0, h0, S0, p0⟩ := q
  refine ⟨fun j σc H => ∃ m F env h, SR X.K B m F env h σc H ∧ PostS X.K xr B Wx kp m F H σc (whlGo rc rb j env h) D, ⟨N, m0, F0, env0, h0, S0, p0⟩, ?_⟩
  rintro j σc H ⟨m, F, env, h, S, p⟩
  cases j with
  | zero => exact p.elim
  | succ j =>
    simp only [whlGo] at p
    refine ⟨m, F, env, h, S, (p.bindE (env := env)).mono fun w h1 m1 F1 H1 x1 S1 p1 => ?_⟩
    clear p
    split at p1
    · exact ⟨false, rfl, iteF (PostS.nx p1 S1 (.refl ..))⟩
    · refine ⟨true, rfl, iteT ⟨fun σ' H' => ∃ m' , m' < j + 1 ∧ ∃ m F env h, SR X.K B m F env h σ' H' ∧ PostS X.K xr B Wx kp m F H' σ' (whlGo rc rb m' env h) D, fun σ' H' n => n, m1, F1, env, h1, S1, ?_⟩⟩
      have next : ∀ {env3 : Vars} {h3 : Hq}, PostS X.K xr B Wx kp m1 F1 H1 σc (whlGo rc rb j env3 h3) D → ∀ m' F' H3 σ', Ext m1 F1 H1 m' F' H3 → SR X.K B m' F' env3 h3 σ' H3 → Kp kp σc σ' → ∃ m', m' < j + 1 ∧ ∃ m F env h, SR X.K B m F env h σ' H3 ∧ PostS X.K xr B Wx kp m F H3 σ' (whlGo rc rb m' env h) D :=
        fun {env3 h3} p m' F' H3 σ' x3 S3 k3 => ⟨j, by omega, m', F', env3, h3, S3, p.shift x3 k3⟩
      cases hr : rb env h1 with
      | bad => rw [hr] at p1; exact p1.elim
      | ex c ds h3 => rw [hr] at p1; exact p1
      | ok f h3 =>
        rw [hr] at p1
        cases f with
        | nx env3 => exact next p1
        | ct env3 => exact next p1
        | bk env3 => exact p1
        | rt w => exact p1
    · exact p1.elim
omit hb hB in
theorem frz_read {X : Cx} {Wx : WX} {kp : List Nat} {i : Nat} {ss : Ss} {D : Ends} {σ : L2.St} {H : Hp} (q : tS X.K xr B Wx kp (evSs b (callN T n) (.cons (.frz i) ss)) D σ H) : tS X.K xr B Wx kp (evSs b (callN T n) ss) D σ H := by
  obtain ⟨m, F, env, h, S, p⟩ := q
  simp only [evSs, evS] at p
  unfold evFrz at p
  split at p
  · rename_i nn ei
    split at p
    · rename_i xs eo
      have hie : ∀ e, B.ex = some e → i ≠ e.i := fun e he z => by
        have := (S.exv e he).1
        rw [← z, ei] at this
        cases this
      obtain ⟨v, ev, rv⟩ := S.var i _ hie ei
      obtain ⟨a, em, rfl⟩ := rv
      obtain ⟨fa, vs, eH, dd⟩ := S.hr.ob nn _ a eo em
      obtain ⟨r', e'⟩ := S.hr.frz em fa eH
      have p : PostS X.K xr B Wx kp m F H σ (evSs b (callN T n) ss (env.set i (some (.d (.list xs)))) (h.set nn .dead)) D := p
      refine ⟨m, _, _, _, ⟨r', by simpa using S.el, fun j w hj0 ej => ?_, fun y hy => ?_⟩, p.shift e' (.refl ..)⟩
      by_cases hj : j = i
      · subst hj
        have hl : j < env.length := (List.getElem?_eq_some_iff.mp ei).1
        rw [List.getElem?_set_self hl] at ej
        cases ej
        exact ⟨_, ev, .lst sq_new (dps_mono e'.sub _ _ dd)⟩
      · rw [List.getElem?_set_ne (Ne.symm hj)] at ej
        obtain ⟨v, h1, h2⟩ := S.var j w hj0 ej
        exact ⟨v, h1, wr_mono (.refl _) e'.sub h2⟩
      · obtain ⟨h1, h2, h3⟩ := S.exv y hy
        exact ⟨by rw [List.getElem?_set_ne (hie y hy)]; exact h1, h2, y.mono _ _ e'.sub h3⟩
    · exact p.elim
  · exact p.elim

omit hb hB in
theorem pmk_own0 {X : Cx} {C : Addr} {bmB : List Value} {Bb newId initId : String} {x : Str} {p pos : Pos} (F : ExcBaseFacts Bb newId initId bmB) (q : PySem.W.excIn X.K C bmB newId = true) (gC : X.mg x = some (.ref C)) (kC : PySem.W.keepIn X.K (.ref C) = true) (r : Raises X (.ref C)) (hg : Gl X x)
    (hdb : (x == ("__debug__" : Str)) = false) : PMk X (.Call (.Name x p) [] [] pos) (fun _ H Q => Q (.ref C) none H) := by
  intro pins s σ H Q I h
  refine wpAny_Call_Name_kw (ld_glob I hg gC ?_ hdb)
  refine PySem.W.callWith_K0 I.kIn kC ?_
  obtain ⟨bm, N, nm, qn, bs, hdct, sn, sub, ab, col, dd, k0, k1, k2, k3, k5, mN, hC, hN, hni, T⟩ := exc_obj I.kIn q
  refine wpAny_call_exc_subT F T hC hN hni (fun h' e hm => ?_) (by show 0 ≤ sizeLine; exact Nat.zero_le _)
  exact mk_of I hm r h (I.hok.gone hm.new)
omit hb hB in
theorem snd_rais (c : Nat) (es : Es) : SndS M xr T n b B (.rais c es) := by
  intro X Wx sc kp p k h
  simp only [matS, Bool.and_eq_true] at h
  obtain ⟨⟨hcm, hes⟩, h⟩ := h
  cases es with
  | cons e es => simp [Es.isNil] at hes
  | nil =>
    split at h
    · rename_i x e1
      obtain ⟨pos, p1, p2, rfl⟩ := raisOf_ok e1
      simp only [Bool.and_eq_true] at h
      obtain ⟨⟨hno, g⟩, pn⟩ := h
      unfold clsNo at hno
      split at hno
      · rename_i d e2
        simp only [Bool.and_eq_true, decide_eq_true_eq, List.isEmpty_iff] at hno
        obtain ⟨⟨rfl, ho⟩, hfl⟩ := hno
        have C := k.cls c d e2 ho
        refine (ps_raise (k.clm hcm) k.tk (pmk_own0 PySem.F.excBase_ValueError (C.xC hfl) C.gC C.kC (raises_own C.sC C.tC) (gl_of k.hs g) (plainN_of pn).1)).weak fun D σ H q => ?_
        obtain ⟨m, F, env, hq, S, q⟩ := q
        simp only [evS, evEs, R.bind, allD] at q
        refine q m F H _ _ σ (.refl ..) S.hr ?_ (.refl _ _)
        rw [k.xrE]
        exact ⟨d, e2, ho, rfl, by rw [hfl]; rfl, .inl ⟨hfl, rfl⟩⟩
      · cases hno
    · cases h
omit hb hB in
theorem mg_same : ∀ {a b : Mg}, a.same b = true → a = b
  | .c s, .c t, h => by rw [show s = t from of_decide_eq_true h]
  | .st i, .st j, h => by rw [show i = j from of_decide_eq_true h]
  | .v i, .v j, h => by rw [show i = j from of_decide_eq_true h]
  | .ad x y, .ad z w, h => by
    have h : (x.same z && y.same w) = true := h
    rw [Bool.and_eq_true] at h
    rw [mg_same h.1, mg_same h.2]
omit hb hB in
theorem dps_at {K : PySem.W.Frag} {F : Hp} : ∀ {vs : List V} {ds : List PyData}, DpAll K F vs ds → ∀ (j : Nat) (d : PyData), ds[j]? = some d → ∃ v, vs[j]? = some v ∧ Dp K F v d
  | _, _, .nil, _, _, e => by simp at e
  | _, _, .cons h1 h2, 0, d, e => by
    simp only [List.getElem?_cons_zero, Option.some.injEq] at e
    subst e
    exact ⟨_, rfl, h1⟩
  | _, _, .cons h1 h2, j + 1, d, e => by
    simp only [List.getElem?_cons_succ] at e ⊢
    exact dps_at h2 j d e
omit hb hB in
theorem dps_snoc {K : PySem.W.Frag} {F : Hp} {v : V} {d : PyData} (hv : Dp K F v d) : ∀ {vs : List V} {ds : List PyData}, DpAll K F vs ds → DpAll K F (vs ++ [v]) (ds ++ [d])
  | _, _, .nil => .cons hv .nil
  | _, _, .cons h1 h2 => .cons h1 (dps_snoc hv h2)
omit hb hB in
theorem dps_rev {K : PySem.W.Frag} {F : Hp} : ∀ {vs : List V} {ds : List PyData}, DpAll K F vs ds → DpAll K F vs.reverse ds.reverse
  | _, _, .nil => .nil
  | _, _, .cons h1 h2 => by
    rw [List.reverse_cons, List.reverse_cons]
    exact dps_snoc h1 (dps_rev h2)
omit hb hB in
theorem zip_rev {α β : Type} : ∀ {l : List α} {m : List β}, l.length = m.length → (l.zip m).reverse = l.reverse.zip m.reverse
  | [], [], _ => rfl
  | a :: l, b :: m, h => by
    have h : l.length = m.length := by simpa using h
    rw [List.zip_cons_cons, List.reverse_cons, zip_rev h, List.reverse_cons, List.reverse_cons, List.zip_append (by simp [h])]
    rfl
  | [], _ :: _, h => by simp at h
  | _ :: _, [], h => by simp at h
omit hb hB in
theorem bindSA {K : PySem.W.Frag} {Wx : WX} {kp : List Nat} {ra : Vars → Hq → R (List W)} {g : Vars → List W → Hq → R Fl} {σ : L2.St} {H : Hp} {D : Ends} {G : List V → Hp → Prop} (p : tS K xr B Wx kp (fun env h => (ra env h).bind (g env)) D σ H)
    (i : ∀ m F env h H ws vs, SR K B m F env h σ H → WRs K m F vs ws → PostS K xr B Wx kp m F H σ (g env ws h) D → G vs H) : tA K xr B Wx ra σ H G := by
  obtain ⟨m, F, env, h, S, p⟩ := p
  exact ⟨m, F, env, h, S, (p.bindE (env := env)).mono fun ws h1 m1 F1 H1 x1 S1 p vs rv => i m1 F1 env h1 H1 ws vs S1 rv p⟩
theorem snd_raism (c : Nat) (g : Mg) (kk : Nat) (es : Es) : SndS M xr T n b B (.raism c g kk es) := by
  intro X Wx sc kp p k h
  simp only [matS, Bool.and_eq_true] at h
  obtain ⟨hcm, h⟩ := h
  split at h
  · rename_i x p1 p2 pos pe ps e1
    have := raisOfM_ok e1
    subst this
    simp only [Bool.and_eq_true] at h
    obtain ⟨⟨⟨hci, hgl⟩, hpn⟩, hes⟩ := h
    unfold clsIni at hci
    split at hci
    · rename_i d e2
      simp only [Bool.and_eq_true, decide_eq_true_eq] at hci
      obtain ⟨⟨⟨⟨⟨rfl, ho⟩, hk0⟩, hk9⟩, hkl⟩, hi⟩ := hci
      split at hi
      · rename_i i ei
        have C := k.cls c d e2 ho
        obtain ⟨f, cda, cc, qual, fd, F, hbd, iC, tI, hib⟩ := C.ini i ei
        have hg := mg_same hi
        have hne : d.fl ≠ [] := fun z => by rw [z] at hkl; simp at hkl; omega
        have hfn := xi_ok (w := X.w) (mg := X.mg) (base := X.base) (k := 0) F hib (k.bl _ (by decide +kernel)) hne (by omega) C.fF
        have ha := sndEs hb hB es X Wx sc _ k.toXOk hes
        have hs := star1 (env := X.env) (ps := ps) (star_head hes)
        have hpl : (backTo p2 (starEach ps X.env)).any (·.1) = false := by
          cases es with
          | nil => simp [matEs] at hes
          | cons e es => simp only [matEs, Bool.and_eq_true] at hes; exact (stars_of hes.2 p2).1
        refine (ps_raise (k.clm hcm) k.tk (pmk_oex (pos := p2) (p := p1) F.oex iC tI hfn ((k.room hcm).mono (by omega)) hbd .nil (fun _ _ _ _ _ _ _ z => z.elim) (gl_of k.hs hgl) C.gC ha (plainN_of hpn).1 hs hpl)).weak fun D σ H q => ?_
        simp only [tS, evS] at q
        refine bindSA q fun m F1 env hq H1 ws vs S rv q => ?_
        split at q
        · rename_i ds ed
          split at q
          · rename_i hlm
            obtain ⟨hl, em⟩ := hlm
            have dp := rv.toD ed
            have vl : vs.length = kk := by rw [dp.length, hl]
            refine ⟨by omega, fun a ha0 => ?_⟩
            refine ⟨a, vs, ds, by rw [List.append_nil], by rw [List.length_reverse, vl, hkl], upd_same, fun j => ⟨fun z e => ?_, fun z e => ?_⟩, by rw [hg]; exact em, fun dx H2 hda hdx ea ed2 hoth => ?_⟩
            · obtain ⟨v, ev, r⟩ := dps_at dp j _ e
              cases r
              exact ev
            · obtain ⟨v, ev, r⟩ := dps_at dp j _ e
              cases r
              exact ev
            · have hdx1 : H1 dx = none := by rw [upd_ne hda] at hdx; exact hdx
              refine ⟨rfl, dx, _, ea, ed2, hdx1, ?_⟩
              have hz : (d.fl.reverse.zip vs).reverse = d.fl.zip vs.reverse := by
                rw [zip_rev (by rw [List.length_reverse, vl, hkl]), List.reverse_reverse]
              have hG : upd (del H2 a) dx (.xd (d.fl.reverse.zip vs).reverse) = upd H1 dx (.xd (d.fl.zip vs.reverse)) := by
                rw [hz]
                funext b2
                by_cases hb2 : b2 = dx
                · rw [hb2, upd_same, upd_same]
                · rw [upd_ne hb2, upd_ne hb2]
                  by_cases hb3 : b2 = a
                  · rw [hb3, del_same, ha0]
                  · rw [del_ne hb3, hoth b2 hb3 hb2, upd_ne hb3]
              rw [hG]
              obtain ⟨S2, x2⟩ := S.newF (u := .xd (d.fl.zip vs.reverse)) hdx1
              refine q m _ _ _ _ σ x2 S2.hr ?_ (.refl _ _)
              rw [k.xrE]
              refine ⟨d, e2, ho, rfl, by rw [List.length_reverse, hl, hkl], .inr ⟨dx, vs.reverse, rfl, upd_same, dps_rev (dps_mono x2.sub _ _ dp)⟩⟩
          · exact q.elim
        · exact q.elim
      · cases hi
    · cases hci
  · cases h
omit hb hB in
theorem kp_sub {kp kp2 : List Nat} {σ σ' : L2.St} (h : ∀ i ∈ kp, i ∈ kp2) (k : Kp kp2 σ σ') : Kp kp σ σ' := ⟨k.1, fun i hi => k.2 i (h i hi)⟩
omit hb hB in
theorem keepE_len {kp : List Nat} : ∀ (env : Vars) (i : Nat), (keepE kp i env).length = env.length
  | [], _ => rfl
  | w :: ws, i => by simp only [keepE, List.length_cons, keepE_len ws]
omit hb hB in
theorem keepE_at {kp : List Nat} : ∀ (env : Vars) (i j : Nat) (w : W), (keepE kp i env)[j]? = some (some w) → (i + j) ∈ kp ∧ env[j]? = some (some w)
  | [], _, _, _, e => by simp [keepE] at e
  | o :: ws, i, 0, w, e => by
    simp only [keepE, List.getElem?_cons_zero, Option.some.injEq] at e
    split at e
    · rename_i h
      exact ⟨List.contains_iff_mem.mp h, by rw [List.getElem?_cons_zero, e]⟩
    · cases e
  | o :: ws, i, j + 1, w, e => by
    simp only [keepE, List.getElem?_cons_succ] at e
    obtain ⟨h1, h2⟩ := keepE_at ws (i + 1) j w e
    exact ⟨by rw [show i + (j + 1) = i + 1 + j by omega]; exact h1, by rw [List.getElem?_cons_succ]; exact h2⟩
/-- the ends of an except suite -/
def Dn (nm : Option Nat) (D : Ends) : Ends := match nm with
  | none => D
  | some i => { nx := fun σ' H' => D.nx (σ'.set i none) H', rt := D.rt, bk := fun σ' H' => D.bk (σ'.set i none) H', ct := fun σ' H' => D.ct (σ'.set i none) H' }
def sn (nm : Option Nat) (a : Addr) (σ : L2.St) : L2.St := match nm with
  | none => σ
  | some i => σ.set i (some (.ref a))
def un (nm : Option Nat) (σ : L2.St) : L2.St := match nm with
  | none => σ
  | some i => σ.set i none
omit hb hB in
theorem Dn_nx {nm : Option Nat} {D : Ends} {σ : L2.St} {H : Hp} : (Dn nm D).nx σ H = D.nx (un nm σ) H := by cases nm <;> rfl
omit hb hB in
theorem Dn_bk {nm : Option Nat} {D : Ends} {σ : L2.St} {H : Hp} : (Dn nm D).bk σ H = D.bk (un nm σ) H := by cases nm <;> rfl
omit hb hB in
theorem Dn_ct {nm : Option Nat} {D : Ends} {σ : L2.St} {H : Hp} : (Dn nm D).ct σ H = D.ct (un nm σ) H := by cases nm <;> rfl
omit hb hB in
theorem Dn_rt {nm : Option Nat} {D : Ends} : (Dn nm D).rt = D.rt := by cases nm <;> rfl
/-- the exception that comes to a suite -/
def Bs (K : PySem.W.Frag) (cl : List CDef) (c0 : List Nat) (nm : Option Nat) (a : Addr) (c : Nat) (ds : List PyData) (cls : Value) (dx : Option Addr) : BB := ⟨c0, nm.map fun i => ⟨i, a, c, ds, fun F => xrC K cl c ds cls dx F F, fun _ _ le h => xrC_mono le h⟩⟩
def tSu (K : PySem.W.Frag) (xr : XRel) (cl : List CDef) (c0 : List Nat) (nm : Option Nat) (kp : List Nat) (f : Vars → Hq → R Fl) (a : Addr) (cls : Value) (dx : Option Addr) : TS := fun D σ H => ∃ (c : Nat) (ds : List PyData) (m : List Addr) (F : Hp) (env : Vars) (h : Hq),
  SR K (Bs K cl c0 nm a c ds cls dx) m F env h σ H ∧ PostS K xr (Bs K cl c0 nm a c ds cls dx) (fun _ _ _ _ => False) kp m F H σ (f env h) D
omit hb hB in
theorem sr_back {K : PySem.W.Frag} {cl : List CDef} {B : BB} (hx : B.ex = none) {nm : Option Nat} {a : Addr} {c : Nat} {ds : List PyData} {cls : Value} {dx : Option Addr} {m : List Addr} {F H : Hp} {env : Vars} {h : Hq} {σ : L2.St} (S : SR K (Bs K cl B.c nm a c ds cls dx) m F env h σ H) : SR K B m F (clrN nm env) h (un nm σ) H := by
  refine ⟨S.hr, ?_, fun j w _ e => ?_, fun y hy => by rw [hx] at hy; cases hy⟩
  · have := S.el
    cases nm <;> simpa [clrN, un] using this
  · cases nm with
    | none => exact S.var j w (fun y hy => by cases hy) e
    | some i =>
      by_cases hj : j = i
      · subst hj
        have e : (env.set j none)[j]? = some (some w) := e
        rw [List.getElem?_set] at e
        simp at e
      · have e : (env.set i none)[j]? = some (some w) := e
        rw [List.getElem?_set_ne (Ne.symm hj)] at e
        obtain ⟨v, h1, h2⟩ := S.var j w (fun y hy => by
          have hy : some _ = some y := hy
          cases hy
          exact hj) e
        exact ⟨v, by show (σ.set i none)[j]? = _; rw [List.getElem?_set_ne (Ne.symm hj)]; exact h1, h2⟩
omit hb hB in
theorem kp_sn {kp : List Nat} {nm : Option Nat} (h : ∀ i, nm = some i → i ∉ kp) {a : Addr} {σ : L2.St} : Kp kp σ (sn nm a σ) := by
  cases nm with
  | none => exact .refl _ _
  | some i => exact kp_set (by cases q : kp.contains i with | false => rfl | true => exact absurd (List.contains_iff_mem.mp q) (h i rfl))
omit hb hB in
theorem kp_un {kp : List Nat} {nm : Option Nat} (h : ∀ i, nm = some i → i ∉ kp) {σ : L2.St} : Kp kp σ (un nm σ) := by
  cases nm with
  | none => exact .refl _ _
  | some i => exact kp_set (by cases q : kp.contains i with | false => rfl | true => exact absurd (List.contains_iff_mem.mp q) (h i rfl))
omit hb hB in
theorem try_read {cs : List Nat} {nm : Option Nat} {kp kp2 : List Nat} {x y : Ss} {X : Cx} {Wx : WX} {sc : Scope} {z : Str} {pz pos pos2 : Pos} {n0 : Option Str} {pb ps : List Stmt} {p : Stmt} (k : XOk2 X Wx M xr T n B sc) (hcm : M.cm = true) (hkp : ∀ i ∈ kp, i ∈ kp2)
    (hcl : clsOwn M z cs = true) (hg : isGl sc z = true) (hp : plainN z = true) (hnm : nmOk M sc kp nm n0 = true)
    (hbody : ∀ (X : Cx) (W : WX), XOk2 X W M xr T n B sc → PSs X pb (tS X.K xr B W kp2 (evSs b (callN T n) x)))
    (hsu : ∀ (X : Cx) (W : WX) (B2 : BB), B2.c = B.c → XOk2 X W { M with xs := nm, cm := false } xr T n B2 sc → PSs X (p :: ps) (tS X.K xr B2 W kp (evSs b (callN T n) y))) :
    PS X (.Try pb [.ExceptHandler (some (.Name z pz)) n0 (p :: ps) pos2] [] [] pos) (tS X.K xr B Wx kp (evS b (callN T n) (.tryS cs nm kp2 x y))) := by
  have hx := k.noex hcm
  obtain ⟨j, ec, hj, rfl, rfl, ho⟩ : ∃ (j : Nat) (e : CDef), M.cls[j]? = some e ∧ e.nm = z ∧ e.subs = cs ∧ e.own = true := by
    unfold clsOwn at hcl
    obtain ⟨e, he, h⟩ := List.any_eq_true.mp hcl
    simp only [Bool.and_eq_true, decide_eq_true_eq] at h
    obtain ⟨j, hj⟩ := List.getElem?_of_mem he
    exact ⟨j, e, hj, h.1.1, h.1.2, h.2⟩
  have nmk : ∀ i, nm = some i → i ∉ kp := fun i hi => by
    subst hi
    cases n0 with
    | none => simp [nmOk] at hnm
    | some y =>
      simp only [nmOk, Bool.and_eq_true, Bool.not_eq_true'] at hnm
      intro z
      rw [List.contains_iff_mem.mpr z] at hnm
      cases hnm.2
  have hc : Names X ec.nm (.ref (cA X.K ec)) := ⟨gl_of k.hs hg, (plainN_of hp).1, .inl (k.cls j ec hj ho).gC⟩
  have HB : ∀ (W : WX) (pn : List (Addr × Obj)) (xe : Value → Shared → Prop), Takes (X.tr pn xe) W → PassesOwn (model X.prog X.w) X.A X.env xe → PSs (X.tr pn xe) pb (tS X.K xr B W kp2 (evSs b (callN T n) x)) := fun W pn xe tk po =>
    hbody (X.tr pn xe) W ⟨⟨k.calm, k.nd, k.hN, k.hs, tk, k.hu, k.hw, k.gd, k.room, k.bl, k.gls, k.glz, k.glt, k.fns, k.ocs, k.mfn, k.xrE, k.cls, k.bcl, k.xs, k.exn, fun e he => by rw [hx] at he; cases he⟩, po, k.fn, k.kd, k.stk, k.frm⟩
  have HS : ∀ (a : Addr) (oe : Obj) (cls : Value) (d : Option Addr) (pn : List (Addr × Obj)), Zc cls d oe → (∃ vs, oe.data = .fields vs) → PSs (X.suite a ((a, oe) :: pn)) (p :: ps) (tSu X.K xr M.cls B.c nm kp (evSs b (callN T n) y) a cls d) := fun a oe cls d pn hz hf => by
    refine ⟨fun pins s σ H D I q => ?_⟩
    obtain ⟨c, ds, m, F, env, h, S, q⟩ := q
    refine (hsu (X.suite a ((a, oe) :: pn)) (fun _ _ _ _ => False) (Bs X.K M.cls B.c nm a c ds cls d) rfl ⟨⟨rfl, k.nd, k.hN, k.hs, fun u s' z => ?_, k.hu, k.hw, k.gd, fun z => (by cases z), k.bl, k.gls, k.glz, k.glt, k.fns, k.ocs, k.mfn, k.xrE, k.cls, k.bcl, (by cases nm <;> rfl), fun z => (by cases z), fun e he => ?_⟩, PassesOwn.never, k.fn, k.kd, k.stk, k.frm⟩).run pins s σ H D I ⟨m, F, env, h, S, q⟩
    · obtain ⟨_, _, _, _, _, _, _, _, _, _, _, _, _, _, _, _, w⟩ := z
      exact w
    · cases nm with
      | none => cases he
      | some i =>
        have he : some _ = some e := he
        cases he
        exact ⟨X, oe, pn, cls, d, rfl, hz, hf, fun F h => h⟩
  -- the reading
  have main : ∀ (D : Ends) (σ : L2.St) (H : Hp), tS X.K xr B Wx kp (evS b (callN T n) (.tryS ec.subs nm kp2 x y)) D σ H → tS X.K xr B (fun cls d σ H => ∃ kb, PySem.W.exmOne X.K cls (.ref (cA X.K ec)) = some kb ∧ (kb = true → ∀ a, H a = none → tSu X.K xr M.cls B.c nm kp (evSs b (callN T n) y) a cls d (Dn nm D) (sn nm a σ) H) ∧ (kb = false → Wx cls d σ H)) kp2 (evSs b (callN T n) x) D σ H := by
    intro D σ H q
    obtain ⟨m, F, env, hq, S, q⟩ := q
    refine ⟨m, F, env, hq, S, ?_⟩
    simp only [evS] at q
    cases e : evSs b (callN T n) x env hq with
    | bad => rw [e] at q; exact q.elim
    | ok fl h1 =>
      rw [e] at q
      cases fl with
      | nx env1 => exact fun m1 F1 H1 σ1 x1 S1 k1 => q m1 F1 H1 σ1 x1 S1 (kp_sub hkp k1)
      | bk env1 => exact fun m1 F1 H1 σ1 x1 S1 k1 => q m1 F1 H1 σ1 x1 S1 (kp_sub hkp k1)
      | ct env1 => exact fun m1 F1 H1 σ1 x1 S1 k1 => q m1 F1 H1 σ1 x1 S1 (kp_sub hkp k1)
      | rt w => exact q
    | ex c ds h1 =>
      rw [e] at q
      intro m1 F1 H1 cls dx σ1 x1 r1 hxr k1
      have hxr2 := hxr
      rw [k.xrE] at hxr2
      obtain ⟨d0, hd0, ho0, hcls, hdl, alt⟩ := hxr2
      have ex := (k.cls c d0 hd0 ho0).exm j ec hj ho
      rw [← hcls] at ex
      refine ⟨_, ex, fun ht a ha => ?_, fun hf => ?_⟩
      · simp only [ht, if_true] at q
        cases hin : nmIn nm env with
        | false => rw [hin] at q; simp only [Bool.not_false, if_true] at q; exact q.elim
        | true =>
        rw [hin] at q
        simp only [Bool.not_true, Bool.false_eq_true, if_false] at q
        have hxr3 := hxr
        rw [k.xrE] at hxr3
        have le : HpLe F1 F1 := .refl _
        refine ⟨c, ds, m1, F1, setN nm (.x c ds) (keepE kp2 0 env), h1, ⟨r1, ?_, fun i w hi ei => ?_, fun y hy => ?_⟩, ?_⟩
        · have h1 := S.el
          have h2 := k1.1
          have h3 : (setN nm (.x c ds) (keepE kp2 0 env)).length = env.length := by cases nm <;> simp [setN, keepE_len]
          have h4 : (sn nm a σ1).length = σ1.length := by cases nm <;> simp [sn]
          omega
        · have ne : ∀ i0, nm = some i0 → i ≠ i0 := fun i0 h0 => by
            subst h0
            exact hi ⟨i0, a, c, ds, _, _⟩ rfl
          have ei2 : (keepE kp2 0 env)[i]? = some (some w) := by
            cases nm with
            | none => exact ei
            | some i0 =>
              have ei : ((keepE kp2 0 env).set i0 _)[i]? = some (some w) := ei
              rw [List.getElem?_set_ne (Ne.symm (ne i0 rfl))] at ei
              exact ei
          obtain ⟨g1, g2⟩ := keepE_at env 0 i w ei2
          rw [Nat.zero_add] at g1
          obtain ⟨v, s1, s2⟩ := S.var i w (fun y hy => by rw [hx] at hy; cases hy) g2
          have s3 : σ1[i]? = some (some v) := by rw [k1.2 i g1]; exact s1
          refine ⟨v, ?_, wr_mono x1.ml x1.sub s2⟩
          cases nm with
          | none => exact s3
          | some i0 => show (σ1.set i0 _)[i]? = _; rw [List.getElem?_set_ne (Ne.symm (ne i0 rfl))]; exact s3
        · cases nm with
          | none => cases hy
          | some i0 =>
            have hy : some _ = some y := hy
            cases hy
            have l1 : i0 < env.length := of_decide_eq_true hin
            have l2 : i0 < σ1.length := by have := S.el; have := k1.1; omega
            exact ⟨by show ((keepE kp2 0 env).set i0 _)[i0]? = _; rw [List.getElem?_set_self (by rw [keepE_len]; exact l1)], by show (σ1.set i0 _)[i0]? = _; rw [List.getElem?_set_self l2], xrC_mono (H := H1) (H' := F1) le hxr3⟩
        · have kk : ∀ {σ2 : L2.St}, Kp kp (sn nm a σ1) σ2 → Kp kp σ (un nm σ2) := fun {σ2} k2 => (kp_sub hkp k1).trans ((kp_sn nmk).trans (k2.trans (kp_un nmk)))
          cases e2 : evSs b (callN T n) y (setN nm (.x c ds) (keepE kp2 0 env)) h1 with
          | bad => rw [e2] at q; exact q.elim
          | ex _ _ _ => rw [e2] at q; exact q.elim
          | ok fl h2 =>
            rw [e2] at q
            cases fl with
            | nx env2 => exact fun m2 F2 H2 σ2 x2 S2 k2 => Eq.mpr Dn_nx (q m2 F2 H2 _ (x1.trans x2) (sr_back hx S2) (kk k2))
            | bk env2 => exact fun m2 F2 H2 σ2 x2 S2 k2 => Eq.mpr Dn_bk (q m2 F2 H2 _ (x1.trans x2) (sr_back hx S2) (kk k2))
            | ct env2 => exact fun m2 F2 H2 σ2 x2 S2 k2 => Eq.mpr Dn_ct (q m2 F2 H2 _ (x1.trans x2) (sr_back hx S2) (kk k2))
            | rt w => exact fun m2 F2 H2 v x2 S2 rv => Eq.mpr (congrFun (congrFun Dn_rt v) H2) (q m2 F2 H2 v (x1.trans x2) S2 rv)
      · simp only [hf, Bool.false_eq_true, if_false] at q
        exact q m1 F1 H1 cls dx σ1 x1 r1 hxr (kp_sub hkp k1)
  cases nm with
  | none =>
    cases n0 with
    | some _ => simp [nmOk] at hnm
    | none => exact (ps_try_only k.stk k.frm hc k.tk (tb := fun W => tS X.K xr B W kp2 (evSs b (callN T n) x)) HB HS).weak main
  | some i =>
    cases n0 with
    | none => simp [nmOk] at hnm
    | some y0 =>
      simp only [nmOk, Bool.and_eq_true, decide_eq_true_eq] at hnm
      obtain ⟨⟨h1, h2⟩, h3⟩ := hnm
      exact (ps_try_as (i := i) k.stk k.frm k.nd (by rw [k.hN]; exact of_decide_eq_true h1) (by show X.env.scope.names.lookup y0 = _; rw [k.hs]; exact h2) hc k.tk (tb := fun W => tS X.K xr B W kp2 (evSs b (callN T n) x)) HB HS).weak main

omit hb hB
mutual
theorem sndS : ∀ (s : S) {M : ME} {B : BB} (hb : b ∈ B.c) (hB : ∀ c ∈ B.c, c ≤ b), SndS M xr T n b B s
  | .bad, M, B, hb, hB => by
    intro X Wx sc kp p k h
    refine ⟨fun pins s σ H D I q => ?_⟩
    obtain ⟨m, F, env, hq, S, q⟩ := q
    simp only [evS] at q
    exact q.elim
  | .asg t u e, M, B, hb, hB => snd_asg hb hB
  | .set o i e, M, B, hb, hB => snd_set hb hB
  | .app o e, M, B, hb, hB => snd_app hb hB
  | .fst c o f e, M, B, hb, hB => snd_fst hb hB
  | .expr e, M, B, hb, hB => by
    intro X Wx sc kp p k h
    cases p <;> try (simp only [matS, Bool.false_eq_true] at h; done)
    rename_i p pos
    simp only [matS, Bool.and_eq_true] at h
    have hs : swapsWith p none pos.line X.env = pure false := by
      cases p <;> first | rfl | (simp [notLC] at h)
    refine (ps_expr (sndE hb hB e X Wx sc p k.toXOk h.2).pe hs).weak fun D σ H q => ?_
    simp only [tS, evS] at q
    exact bindS (ra := evE b (callN T n) e) q fun m F env hq H w v S r q => PostS.nx q S (.refl ..)
  | .ret e, M, B, hb, hB => by
    intro X Wx sc kp p k h
    cases p <;> try (simp only [matS, Bool.false_eq_true] at h; done)
    rename_i v pos
    cases v <;> simp only [matS, Bool.false_eq_true] at h
    refine (ps_ret (sndE hb hB e X Wx sc _ k.toXOk h).pe).weak fun D σ H q => ?_
    simp only [tS, evS] at q
    exact bindS (ra := evE b (callN T n) e) q fun m F env hq H w v S r q => q m F H v (.refl ..) S.hr r
  | .retN, M, B, hb, hB => by
    intro X Wx sc kp p k h
    cases p <;> try (simp only [matS, Bool.false_eq_true] at h; done)
    rename_i v pos
    cases v <;> simp only [matS, Bool.false_eq_true] at h
    refine ps_retN.weak fun D σ H q => ?_
    obtain ⟨m, F, env, hq, S, q⟩ := q
    exact q m F H _ (.refl ..) S.hr .non
  | .ifs c x y, M, B, hb, hB => by
    intro X Wx sc kp p k h
    cases p <;> simp only [matS, Bool.false_eq_true, Bool.and_eq_true] at h
    refine (ps_if ((sndE hb hB c X Wx sc _ k.toXOk h.1.1.2).pt h.1.1.1) (sndSs x hb hB X Wx sc kp _ k h.1.2) (sndSs y hb hB X Wx sc kp _ k h.2)).weak fun D σ H q => ?_
    simp only [tS, evS] at q
    exact if_read q
  | .forS t u it s, M, B, hb, hB => by
    intro X Wx sc kp p k h
    cases p <;> try (simp only [matS, Bool.false_eq_true] at h; done)
    rename_i tg pi ps os pos
    cases os <;> try (simp [matS] at h; done)
    simp only [matS, Bool.and_eq_true] at h
    obtain ⟨⟨⟨⟨⟨hcm, h1⟩, h2⟩, h3⟩, h4⟩, h5⟩ := h
    refine (ps_for k.po (k.clm hcm) (sndIt hb hB it X Wx sc tg pi k.toXOk h4) (pg_T (fun _ => k.clm hcm) k.hN k.nd (fun x hx => sto_all k hx) h1) (sndSs s hb hB X Wx sc kp ps k h5) (noset h3)).weak fun D σ H q => ?_
    simp only [tS, evS] at q
    exact for_read (k.noex hcm) h2 q
  | .whl N c s, M, B, hb, hB => by
    intro X Wx sc kp p k h
    cases p <;> try (simp only [matS, Bool.false_eq_true] at h; done)
    rename_i pc ps os pos
    cases os <;> try (simp [matS] at h; done)
    simp only [matS, Bool.and_eq_true] at h
    refine (ps_while k.po ((sndE hb hB c X Wx sc _ k.toXOk h.1.2).pt h.1.1) (sndSs s hb hB X Wx sc kp ps k h.2)).weak fun D σ H q => ?_
    simp only [tS, evS] at q
    exact whl_read q
  | .pass, M, B, hb, hB => by
    intro X Wx sc kp p k h
    cases p <;> try (simp only [matS, Bool.false_eq_true] at h; done)
    refine ps_pass.weak fun D σ H q => ?_
    obtain ⟨m, F, env, hq, S, q⟩ := q
    exact PostS.nx q S (.refl ..)
  | .brk, M, B, hb, hB => by
    intro X Wx sc kp p k h
    cases p <;> try (simp only [matS, Bool.false_eq_true] at h; done)
    refine ps_break.weak fun D σ H q => ?_
    obtain ⟨m, F, env, hq, S, q⟩ := q
    exact q m F H σ (.refl ..) S (.refl ..)
  | .cnt, M, B, hb, hB => by
    intro X Wx sc kp p k h
    cases p <;> try (simp only [matS, Bool.false_eq_true] at h; done)
    refine ps_continue.weak fun D σ H q => ?_
    obtain ⟨m, F, env, hq, S, q⟩ := q
    exact q m F H σ (.refl ..) S (.refl ..)
  | .rais c es, M, B, hb, hB => snd_rais c es
  | .raism c g k es, M, B, hb, hB => snd_raism hb hB c g k es
  | .tryS cs nm kp2 x y, M, B, hb, hB => by
    intro X Wx sc kp p k h
    simp only [matS, Bool.and_eq_true, List.all_eq_true] at h
    obtain ⟨⟨hcm, hkp⟩, h⟩ := h
    split at h
    · rename_i pb z n ps e1
      obtain ⟨pos, pos2, pz, p, r, rfl, rfl⟩ := tryOf_ok e1
      simp only [Bool.and_eq_true] at h
      obtain ⟨⟨⟨⟨⟨h1, h2⟩, h3⟩, h4⟩, h5⟩, h6⟩ := h
      exact try_read (b := b) (kp2 := kp2) k hcm (fun i hi => List.contains_iff_mem.mp (hkp i hi)) h1 h2 h3 h4 (fun X W k2 => sndSs x hb hB X W sc kp2 pb k2 h5)
        (fun X W B2 e k2 => sndSs y (M := { M with xs := nm, cm := false }) (B := B2) (by rw [e]; exact hb) (by rw [e]; exact hB) X W sc kp (p :: r) k2 h6)
    · cases h
  | .frz i, M, B, hb, hB => by
    intro X Wx sc kp p k h
    cases p <;> simp only [matS, Bool.false_eq_true] at h
theorem sndSs : ∀ (ss : Ss) {M : ME} {B : BB} (hb : b ∈ B.c) (hB : ∀ c ∈ B.c, c ≤ b), SndSs M xr T n b B ss
  | .nil, M, B, hb, hB => by
    intro X Wx sc kp ps k h
    cases ps <;> simp only [matSs, Bool.false_eq_true] at h
    refine pss_nil.weak fun D σ H q => ?_
    obtain ⟨m, F, env, hq, S, q⟩ := q
    exact PostS.nx q S (.refl ..)
  | .cons s ss, M, B, hb, hB => by
    intro X Wx sc kp ps k h
    by_cases hf : ∃ i, s = .frz i
    · obtain ⟨i, rfl⟩ := hf
      simp only [matSs] at h
      exact (sndSs ss hb hB X Wx sc kp ps k h).weak fun D σ H q => frz_read q
    · cases ps with
      | nil => cases s <;> first | (simp [matSs] at h; done) | exact absurd ⟨_, rfl⟩ hf
      | cons p ps =>
        have h' : matS M kp sc s p = true ∧ matSs M kp sc ss ps = true := by
          cases s <;> first | (simpa [matSs] using h) | exact absurd ⟨_, rfl⟩ hf
        refine (pss_cons (sndS s hb hB X Wx sc kp p k h'.1) (sndSs ss hb hB X Wx sc kp ps k h'.2)).weak fun D σ H q => ?_
        obtain ⟨m, F, env, hq, S, q⟩ := q
        simp only [evSs] at q
        refine ⟨m, F, env, hq, S, ?_⟩
        cases e : evS b (callN T n) s env hq with
        | bad => rw [e] at q; exact q.elim
        | ex c ds h1 => rw [e] at q; exact q
        | ok f h1 =>
          rw [e] at q
          cases f with
          | nx env1 => exact fun m1 F1 H1 σ1 x1 S1 k1 => ⟨m1, F1, env1, h1, S1, PostS.shift (r := evSs b (callN T n) ss env1 h1) q x1 k1⟩
          | rt w => exact q
          | bk env1 => exact q
          | ct env1 => exact q
end
end
end Ev

namespace Ev
open PySem PySem.Spec L2
/-- a def's body keeps its promise -/
theorem bodyG {P : Program} {w : World} {K : PySem.W.Frag} {mg : Str → Option Value} {base : Heap} {x qual : Str} {params : Arguments} {body : List Stmt} {scope : Scope} {dvs : List V} {kws : List (Str × V)} {f : Addr} {fd : FuncData} {CX : CXT} {N ps : List Str} {k : Nat} {sp : Sp}
    (D : FunD K x qual params body scope dvs kws f fd) (S : FnScope N ps scope) (lenG : ∀ ys G Z D, sp ys G Z D → ys.length = ps.length)
    (walk : ∀ (cdv : Value) (A : Around) (fr : List Env) (s : Shared) (G : Hp) (ys : List V) (Z : VK) (D : XK), A.guards = some [] → Room k (A.deeper (PyProof.Rows.envOfC qual scope s.heap.objs.size f cdv)) → sp ys G Z D →
      ∃ t, PSs (cxOf CX P w K mg base N qual scope f cdv A fr s G D) body t ∧ t { nx := fun _ H' => Z .non H', rt := Z } (L2.start N ys) G) : FnG P w K mg base CX (k + 1) f fd ps sp := by
  obtain ⟨oc, od, dV, kV, doc, pm, an, cdv, ct, osl, rfl, look, code, _, _⟩ := D.ex
  refine ⟨lenG, fun A gd fr s G args zs ys Z D room e bt rel q => ?_⟩
  have many := lenG _ _ _ _ q
  have keeps : ∀ b o, base.get? b = some o → s.heap.get? b = some o := fun b o z => (e.bs b o z).1
  have inK : K.In s.heap := e.mod.kin.keeps keeps
  have free : s.heap.NoLimit := e.mod.nolimit.keeps keeps
  have kinds : ∀ y ∈ ps.zip zs, scope.names.lookup y.1 = some .local ∨ (scope.names.lookup y.1 = some .cell ∧ ((cellsFrom (s.heap.objs.size + 1) scope.names []).lookup y.1).isSome = true) := by
    intro y hy
    cases S.par y.1 (List.of_mem_zip (a := y.1) (b := y.2) hy).1 with
    | inl z => exact .inl z
    | inr z => exact .inr ⟨z, PySem.W.cellsFrom_some _ _ _ (.inl z)⟩
  refine codeAny_call_function room.depth (inK _ _ look) rfl S.co S.gen rfl (PySem.W.codeRec_of inK code) (bt _ _ _ _ (wpAny_newFunctionEnv_cells S.kind kinds fun env he s1 nw => ?_))
  subst he
  refine ⟨free.keeps nw.toInCall.keep, codeAny_func ?_⟩
  obtain ⟨t, run, at0⟩ := walk cdv A fr s G ys Z D gd (room.deeper _) q
  have J := inv_start (CX := CX) (E := D) (cd := cdv) S room.hd e many rel nw
  refine wpAny_mono (run.run [] s1 (L2.start N ys) G _ J at0) (fun res s2 o => ?_) fun ex s2 o => o
  have done : ∀ {σ2 : St} {G2 : Hp} {y : V} {u : Value}, Inv (cxOf CX P w K mg base N qual scope f cdv A fr s G D) [] σ2 G2 s2 → RelV y u → Z y G2 → CE fr P w G s Z u s2 :=
    fun {σ2 G2 y u} J2 ry z => ⟨y, G2, J2.os, J2.bare, J2.base, J2.hok, ry, z⟩
  cases res with
  | ret u =>
    obtain ⟨y, σ2, G2, J2, ry, z⟩ := o
    exact done J2 ry z
  | next =>
    obtain ⟨σ2, G2, J2, z⟩ := o
    exact done (y := V.non) (u := Value.none) J2 rfl z
  | brk => exact (let ⟨_, _, _, z⟩ := o; (z : False).elim)
  | cont => exact (let ⟨_, _, _, z⟩ := o; (z : False).elim)
end Ev

/-! EvN: every def keeps its promise (fnAll). -/
namespace Ev
open PySem PySem.Spec L2
variable [Wd]

/-- what must be known of a def: the table T stands for it -/
def DefAt (K : PySem.W.Frag) (T : List FD) (G : GE) (f : Nat) (a : Addr) : Prop :=
  ∃ (fd : FD) (nm qual : Str) (params : Arguments) (body : List Stmt) (scope : Scope) (fdt : FuncData) (ps N : List Str), T[f]? = some fd ∧ FunD K nm qual params body scope [] [] a fdt ∧ FnScope N ps scope ∧ ps.length = fd.np ∧ N.length = fd.ns ∧
    matSs ⟨G, N, none, true⟩ [] scope fd.body body = true ∧ Binds K fdt ps []
/-- what must be known of the top -/
structure GOk (P : Program) (w : World) (K : PySem.W.Frag) (mg : Str → Option Value) (xr : XRel) (T : List FD) (G : GE) : Prop where
  hw : w = Wd.w
  hbl : ∀ x ∈ bnames, mg x = none
  hx : xr = xrC K G.cls
  hgi : ∀ x i, (x, i) ∈ G.gi → ∃ t, mg x = some (.int i t)
  hgs : ∀ x z, (x, z) ∈ G.gs → ∃ t, mg x = some (.str z t)
  hgt : ∀ x z, (x, z) ∈ G.gt → ∃ a, mg x = some (.ref a) ∧ TupK K a z
  hcl : ∀ c d, G.cls[c]? = some d → d.own = true → ClsOk P K mg G.cls c d
  hbc : ∀ d ∈ G.cls, d.own = false → mg d.nm = none ∧ d.nm = "ValueError"
  hfn : ∀ (f : Nat) (x : Str), G.fn[f]? = some (some x) → ∃ a, mg x = some (.ref a) ∧ PySem.W.keepIn K (.ref a) = true ∧ DefAt K T G f a
  hoc : ∀ (c : Nat) (d : OCl), G.ocl[c]? = some d → OclS K mg c d
  hmf : ∀ (c : Nat) (d : OCl) (m : Str) (f : Nat), G.ocl[c]? = some d → isMeth d m f → DefAt K T G f (He.ma K (He.ga K d.nm) m)
def PromAt (P : Program) (w : World) (K : PySem.W.Frag) (mg : Str → Option Value) (base : Heap) (xr : XRel) (T : List FD) (n f : Nat) (a : Addr) : Prop :=
  ∃ fd ps, Binds K fd ps [] ∧ FnG P w K mg base (L2.CX P w) (2 * n + 2) a fd ps (spF K xr T n f)

theorem HR.grow {K : PySem.W.Frag} {B : List Nat} {m : List Addr} {F H : Hp} {h : Hq} (r' : HR K B m F h H) : HR K (h.length :: B) m F h H := by
  refine ⟨r'.len, r'.nd, r'.ob, r'.sub, r'.there, fun c hc => ?_⟩
  rcases List.mem_cons.mp hc with e | hc
  · subst e
    refine ⟨Nat.le_refl _, fun n o k hn e hk => ?_⟩
    obtain ⟨a, ea, q⟩ := r'.at e
    cases o with
    | lst xs => simp [refs] at hk
    | dct xs => simp [refs] at hk
    | dki xs => simp [refs] at hk
    | dead => simp [refs] at hk
    | obj c' fs =>
      obtain ⟨f, dx, vs, eH, d⟩ := q
      clear e eH
      induction d with
      | nil => simp [refs] at hk
      | cons d1 d2 ih =>
        rename_i g v w r ws'
        simp only [refs, List.flatMap_cons, List.mem_append] at hk
        rcases hk with hk | hk
        · cases w with
          | d x => simp [refsW] at hk
          | x _ _ => simp [refsW] at hk
          | l j =>
            simp only [refsW, List.mem_singleton] at hk
            subst hk
            obtain ⟨b, eb, rfl⟩ := d1
            rw [← r'.len]
            exact (List.getElem?_eq_some_iff.mp eb).1
        · exact ih hk
    | lsw ws =>
      obtain ⟨f, vs, eH, d⟩ := q
      clear e eH
      induction d with
      | nil => simp [refs] at hk
      | cons d1 d2 ih =>
        rename_i w ws'
        simp only [refs, List.flatMap_cons, List.mem_append] at hk
        rcases hk with hk | hk
        · cases w with
          | d x => simp [refsW] at hk
          | x _ _ => simp [refsW] at hk
          | l j =>
            simp only [refsW, List.mem_singleton] at hk
            subst hk
            obtain ⟨b, eb, rfl⟩ := d1
            rw [← r'.len]
            exact (List.getElem?_eq_some_iff.mp eb).1
        · exact ih hk
  · exact r'.clo c hc

section
variable {P : Program} {w : World} {K : PySem.W.Frag} {mg : Str → Option Value} {base : Heap} {xr : XRel} {T : List FD} {G : GE}

theorem sr_start {B : List Nat} {m : List Addr} {F H : Hp} {h : Hq} {N : List Str} {vs : List V} {ws : List W} {k : Nat} (r : HR K B m F h H) (q : WRs K m F vs ws) (hk : ws.length + k = N.length) :
    SR K ⟨B, none⟩ m F (ws.map some ++ List.replicate k none) h (L2.start N vs) H := by
  have hl := q.length
  refine ⟨r, ?_, fun i w _ e => ?_, fun y hy => (by cases hy)⟩
  · unfold L2.start
    simp only [List.length_append, List.length_map, List.length_replicate]
    omega
  · by_cases hi : i < ws.length
    · rw [List.getElem?_append_left (by simpa using hi), List.getElem?_map] at e
      cases e2 : ws[i]? with
      | none => rw [e2] at e; cases e
      | some w' =>
        rw [e2] at e
        cases e
        obtain ⟨v, hv, rv⟩ := q.get e2
        refine ⟨v, ?_, rv⟩
        unfold L2.start
        rw [List.getElem?_append_left (by simpa using by omega), List.getElem?_map, hv]
        rfl
    · rw [List.getElem?_append_right (by simpa using hi), List.getElem?_replicate] at e
      split at e <;> cases e

/-- what is cut off was made since -/
theorem Ext.cut {m m' : List Addr} {F F' H H' : Hp} (x : Ext m F H m' F' H') : Ext m F H m F' H' :=
  ⟨.refl _, x.sub, x.frm, fun a h g => absurd h g, x.frf⟩

theorem spF_len {n f : Nat} {fd : FD} (e : T[f]? = some fd) {vs : List V} {H : Hp} {Q : VK} {E : XK} (s : spF K xr T n f vs H Q E) : vs.length = fd.np := by
  obtain ⟨fd', e', l, _⟩ := s
  rw [e] at e'
  cases e'
  exact l

theorem spF_zero {f : Nat} {vs : List V} {H : Hp} {Q : VK} {E : XK} (s : spF K xr T 0 f vs H Q E) : False := by
  obtain ⟨fd, e, l, B, b, m, F, ws, h, hb, hB, r, q, s⟩ := s
  exact s

/-- a def keeps its promise, if those that it calls do -/
theorem fnStep {n f : Nat} (g : GOk P w K mg xr T G) (ih : ∀ (f : Nat) (a : Addr), DefAt K T G f a → PromAt P w K mg base xr T n f a)
    {fd : FD} {nm qual : Str} {params : Arguments} {body : List Stmt} {scope : Scope} {a : Addr} {fdt : FuncData} {ps N : List Str} (eT : T[f]? = some fd) (FD' : FunD K nm qual params body scope [] [] a fdt) (FS : FnScope N ps scope) (l1 : ps.length = fd.np) (l2 : N.length = fd.ns)
    (hm : matSs ⟨G, N, none, true⟩ [] scope fd.body body = true) : FnG P w K mg base (L2.CX P w) (2 * n + 3 + 1) a fdt ps (spF K xr T (n + 1) f) := by
    refine bodyG FD' FS (fun vs H Q E s => by rw [spF_len eT s, l1]) fun cdv A outer s H vs Q E gd hr sp => ?_
    obtain ⟨fd2, eT2, hl, B, b, m, F, ws, h, hb, hB, r, q, sp⟩ := sp
    rw [eT] at eT2
    cases eT2
    have hlw : ws.length = fd.np := by rw [← q.length]; exact hl
    have hpl : fd.np ≤ N.length := by
      have := congrArg List.length FS.pre
      rw [List.length_take] at this
      omega
    have ev : callN T (n + 1) b f ws h = runF (callN T n) fd b ws h := by simp only [callN, eT]
    rw [ev] at sp
    have k : XOk2 (cxOf (L2.CX P w) P w K mg base N qual scope a cdv A outer s H E) (fun cls d _ H => E cls d H) ⟨G, N, none, true⟩ xr T n ⟨B, none⟩ scope := by
      refine ⟨⟨rfl, FS.nd, rfl, rfl, takes_of rfl rfl rfl rfl, ?_, g.hw, gd, fun _ => hr, g.hbl, g.hgi, g.hgs, g.hgt, fun f x e => (let ⟨a, h1, h2, h3⟩ := g.hfn f x e; let ⟨fd, ps, h4, h5⟩ := ih f a h3; ⟨a, fd, ps, h1, h2, h4, h5⟩), g.hoc, fun c d m f e i => ih f _ (g.hmf c d m f e i), g.hx, g.hcl, g.hbc, rfl, fun _ => rfl, fun e he => (by cases he)⟩, passes_of rfl, fun _ => rfl, FS.kind, rfl, rfl⟩
      have := hr.un
      show (A.deeper _).units + 200 < cLine
      omega
    unfold runF at sp
    rw [if_pos hlw] at sp
    cases htr : fd.tr with
    | false =>
      rw [htr] at sp
      simp only [Bool.false_eq_true, if_false] at sp
      refine ⟨_, sndSs fd.body (B := ⟨B, none⟩) hb hB _ _ scope [] body k hm, m, F, ws.map some ++ List.replicate (fd.ns - fd.np) none, h, sr_start r q (by omega), ?_⟩
      cases e2 : evSs b (callN T n) fd.body (ws.map some ++ List.replicate (fd.ns - fd.np) none) h with
      | bad => rw [e2] at sp; exact sp.elim
      | ex c ds h' => rw [e2] at sp; exact fun m' F' H' cls dx σ' x r' y _ => sp m' F' H' cls dx x r' y
      | ok fl h' =>
        rw [e2] at sp
        cases fl with
        | nx env => exact fun m' F' H' σ' x r' _ => sp .non m' F' H' x r'.hr .non
        | rt wv => exact fun m' F' H' v x r' rv => sp v m' F' H' x r' rv
        | bk env => exact sp.elim
        | ct env => exact sp.elim
    | true =>
      rw [htr] at sp
      simp only [if_true] at sp
      have k2 : XOk2 (cxOf (L2.CX P w) P w K mg base N qual scope a cdv A outer s H E) (fun cls d _ H => E cls d H) ⟨G, N, none, true⟩ xr T n ⟨h.length :: B, none⟩ scope := ⟨⟨k.calm, k.nd, k.hN, k.hs, k.tk, k.hu, k.hw, k.gd, k.room, k.bl, k.gls, k.glz, k.glt, k.fns, k.ocs, k.mfn, k.xrE, k.cls, k.bcl, rfl, k.exn, fun e he => (by cases he)⟩, k.po, k.fn, k.kd, k.stk, k.frm⟩
      have hB2 : ∀ c ∈ h.length :: B, c ≤ h.length := fun c hc => by
        rcases List.mem_cons.mp hc with e | hc
        · omega
        · exact (r.clo c hc).1
      have cutHR : ∀ {m' F' H' h'}, Ext m F H m' F' H' → HR K (h.length :: B) m' F' h' H' → HR K B m F' (h'.take h.length) H' := fun x r' => r'.cut x.ml r.len.symm fun d hd => (r.clo d hd).1
      refine ⟨_, sndSs fd.body (b := h.length) (B := ⟨h.length :: B, none⟩) List.mem_cons_self hB2 _ _ scope [] body k2 hm, m, F, ws.map some ++ List.replicate (fd.ns - fd.np) none, h, sr_start r.grow q (by omega), ?_⟩
      cases e2 : evSs h.length (callN T n) fd.body (ws.map some ++ List.replicate (fd.ns - fd.np) none) h with
      | bad => rw [e2] at sp; exact sp.elim
      | ex c ds h' => rw [e2] at sp; exact fun m' F' H' cls dx σ' x r' y _ => sp m F' H' cls dx x.cut (cutHR x r') y
      | ok fl h' =>
        rw [e2] at sp
        cases fl with
        | nx env => exact fun m' F' H' σ' x r' _ => sp .non m F' H' x.cut (cutHR x r'.hr) .non
        | rt wv =>
          cases wv with
          | d d => exact fun m' F' H' v x r' rv => sp v m F' H' x.cut (cutHR x r') rv
          | l j => exact sp.elim
          | x _ _ => exact sp.elim
        | bk env => exact sp.elim
        | ct env => exact sp.elim
/-- every def keeps its promise -/
theorem fnAll (g : GOk P w K mg xr T G) : ∀ (n f : Nat) (a : Addr), DefAt K T G f a → PromAt P w K mg base xr T n f a
  | 0, f, a, e => by
    obtain ⟨fd, nm, qual, params, body, scope, fdt, ps, N, eT, FD', FS, l1, l2, hm, hbd⟩ := e
    exact ⟨fdt, ps, hbd, ⟨fun vs H Q E s => (spF_zero s).elim, fun A gd outer s H args us vs Q E hr he hb hv hs => (spF_zero hs).elim⟩⟩
  | n + 1, f, a, e => by
    obtain ⟨fd, nm, qual, params, body, scope, fdt, ps, N, eT, FD', FS, l1, l2, hm, hbd⟩ := e
    exact ⟨fdt, ps, hbd, fnStep g (fnAll g n) eT FD' FS l1 l2 hm⟩
end
end Ev

/-! EvNe: a law's end, for a promise that is asked where no repr is under way. -/
namespace Ev
open PySem PySem.Spec PyProof.Rows L2
theorem law_callG {P : Program} {w : World} {K : PySem.W.Frag} {mg mb : Str → Option Value} {CX : CXT} {k : Nat} {fa z : Addr} {fd : FuncData} {x : Str} {sp : Sp} {s0 : Shared} {us : List Value} {ks : List Int}
    (inK : K.In s0.heap) (ng : s0.heap.Ns mainGlobals mg) (nb : s0.heap.Ns builtinsNs mb) (boot : ∀ y : Str, y ≠ "__name__" → mb y = bootBuiltins y) (free : s0.heap.NoLimit) (gens : s0.gens = #[])
    (there : s0.heap.get? z = some { cls := .type "list", data := .seq us.toArray }) (hints : IntsAre us ks) (small : ks.length ≤ sizeLine) (room : Room k callerA)
    (F : ∀ base : Heap, K.In base → base.Ns mainGlobals mg → FnG P w K mg base CX k fa fd [x] sp) (bind : ∀ (s : Shared) (v : Value), BindsTo s fd ⟨[v], []⟩ [(x, v)])
    (start : ∀ G : Hp, Only G → SqL K G z (ks.map V.int) → sp [.ref z] G (fun v _ => v = .bl true) fun _ _ _ => False)
    (quiet : ∀ G e s', CX [] G s0 (fun _ _ _ => False) e s' → False) :
    codeAny (model P w) callerA (.call (.ref fa) ⟨[.ref z], []⟩) (fun r s' => r = .ok (.ret (.bool true)) ∧ OldK s0.heap s'.heap ∧ s'.os = s0.os ∧ AllBare s'.gens) s0 := by
  have vals := vals_ints hints
  have many := hints.length
  have core : ∀ G : Hp, Only G → SqL K G z (ks.map V.int) → HOk P w G s0.heap → (∀ b, G b ≠ none → b = z) → (G z ≠ none → K.lookup z = none) →
      codeAny (model P w) callerA (.call (.ref fa) ⟨[.ref z], []⟩) (fun r s' => r = .ok (.ret (.bool true)) ∧ OldK s0.heap s'.heap ∧ s'.os = s0.os ∧ AllBare s'.gens) s0 := by
    intro G only sq ok alone notK
    have keepB : ∀ {b : Addr} {o : Obj}, s0.heap.get? b = some o → G b = none → (hidT s0.heap G).get? b = some o := fun p q => hidT_get p q
    have isZ : ∀ {b : Addr} {u : HO}, G b = some u → b = z := fun {b u} q => alone b (by rw [q]; simp)
    have noD : ∀ {b : Addr} {o : Obj} {es : Array DictEntry} {ep : Nat}, s0.heap.get? b = some o → o.data = .dict es ep → G b = none := by
      intro b o es ep p d
      cases q : G b with
      | none => rfl
      | some u =>
        cases isZ q
        rw [there] at p
        cases p
        exact absurd (show Data.seq us.toArray _ = Data.dict es ep from d) (fun t => nomatch t)
    have spaces : ∀ {b : Addr} {m : Str → Option Value}, s0.heap.Ns b m → (hidT s0.heap G).Ns b m := fun {b m} ⟨o, es, ep, p, d, r⟩ => ⟨o, es, ep, keepB p (noD p d), d, r⟩
    have inB : K.In (hidT s0.heap G) := fun b o p => keepB (inK b o p) (by
      cases q : G b with
      | none => rfl
      | some u =>
        cases isZ q
        rw [notK (by rw [q]; simp)] at p
        cases p)
    have mod : Mod K mg (hidT s0.heap G) := ⟨inB, spaces ng, ⟨mb, spaces nb, boot⟩, let ⟨mc, p, q⟩ := free; ⟨mc, spaces p, q⟩⟩
    have e0 : Env0 P w K mg (hidT s0.heap G) callerA [] s0 G := ⟨rfl, mod, fun b o p => of_hidT p, Nat.le_of_eq (hidT_size _ _), trivial, fun b q => absurd (show b ∈ ([] : List Addr) from q) (by simp), ok, .of_eq gens⟩
    refine codeAny_mono ((F _ inB (spaces ng)).runG callerA rfl [] s0 G ⟨[.ref z], []⟩ [.ref z] [.ref z] _ _ room e0 (bind s0 (.ref z)) (.cons rfl .nil) (start G only sq)) fun res s' o => ?_
    cases res with
    | error e => exact (quiet G e s' o).elim
    | ok fl =>
      cases fl with
      | next => exact (show False from o).elim
      | brk => exact (show False from o).elim
      | cont => exact (show False from o).elim
      | ret u =>
        obtain ⟨v, G', os, bare, un, ok', rv, q⟩ := o
        cases (show v = .bl true from q)
        cases (show u = Value.bool true from rv)
        refine ⟨rfl, OldK.of_keep fun b o p => ?_, os, bare⟩
        cases q : G b with
        | none => exact un.keep b o p q (by intro t; exact absurd (show b ∈ ([] : List Addr) from t) (by simp)) (by simp)
        | some u =>
          rcases only b with t | ⟨ob, xs, t⟩
          · rw [q] at t; cases t
          · have t2 := un.frzs b ob _ t
            obtain ⟨p1, _⟩ := ok b _ t
            obtain ⟨p2, _⟩ := ok' b _ t2
            rw [p] at p1
            cases p1
            exact p2
  cases mine : K.lookup z with
  | some o =>
    have p := inK z o mine
    rw [there] at p
    cases p
    exact core (fun _ => none) (fun _ => .inl rfl) (.inr ⟨_, us.toArray, _, mine, rfl, rfl, rfl, by rw [List.size_toArray, many]; exact small, by simpa using vals⟩) (fun b u t => (by have t' : (none : Option HO) = some u := t; cases t')) (fun b t => absurd rfl t) fun t => absurd rfl t
  | none =>
    refine core (fun b => if b = z then some (.frz { cls := .type "list", data := .seq us.toArray } (.lst (ks.map V.int))) else none) (fun b => ?_) (.inl (.inr ⟨{ cls := .type "list", data := .seq us.toArray }, if_pos rfl⟩)) (fun b u t => ?_) (fun b t => ?_) fun _ => mine
    · by_cases e : b = z
      · exact .inr ⟨_, _, if_pos e⟩
      · exact .inl (if_neg e)
    · by_cases e : b = z
      · have t' := (if_pos e).symm.trans t
        cases t'
        subst e
        exact ⟨there, by rw [List.length_map]; exact small, us, _, vals, there⟩
      · have t' := (if_neg e).symm.trans t
        cases t'
    · by_cases e : b = z
      · exact e
      · exact absurd (if_neg e) t
/-- a law's walk -/
theorem walkG {l : PySem.W.OpenLaw} {n k : Nat} {q : Program} {loose : List Str} {XP : (Str → Option Value) → Heap → Prop} {YP : World → Heap → Prop} {d : DefRec} {CX : CXT} {x : Str}
    (most : l.most = some n) (small : n ≤ sizeLine) (plain : d.params.defaults = []) (room : Room k callerA)
    (F : ∀ (w : World) (mg : Str → Option Value) (fa : Addr) (h : Heap), YP w h → h.Ns mainGlobals mg → mg d.name = some (.ref fa) →
      ∃ (K : PySem.W.Frag) (fd : FuncData) (sp : Sp), K.In h ∧ (∀ (s : Shared) (v : Value), BindsTo s fd ⟨[v], []⟩ [(x, v)]) ∧
        (∀ (G : Hp) (z : Addr) (ks : List Int), ks.length ≤ n → Only G → SqL K G z (ks.map V.int) → sp [.ref z] G (fun v _ => v = .bl true) fun _ _ _ => False) ∧
        ∀ base : Heap, K.In base → base.Ns mainGlobals mg → FnG l.prog w K mg base CX k fa fd [x] sp)
    (quiet : ∀ (G : Hp) (s : Shared) (e : Value) (s' : Shared), CX [] G s (fun _ _ _ => False) e s' → False) :
    PySem.W.WalkO q loose XP YP l.row.toRowW d [] (fun f vs => PySem.call f vs) := by
  refine Att.attach_call most plain fun w s0 s1 mg mb fa o pm cd doc z us ks G Y ho hd hcd nm obj hints len gens => ?_
  obtain ⟨K, fd, sp, inK, bd, st, prom⟩ := F w mg fa _ Y G.T.g nm
  exact law_callG inK G.T.g G.T.b G.T.builtins G.T.nolimit gens obj hints (Nat.le_trans len small) room prom bd (fun H a b => st H z ks len a b) fun H e s' => quiet H s1 e s'
end Ev

/-! EvO: from a table of terms to the law (law_of). -/
namespace Ev
open PySem PySem.Spec L2

/-- one def of the row's top: its statement, parameters, names, term; the class that it stands in -/
structure DF where
  nm : Str
  st : Stmt
  ps : List Str
  N : List Str
  fd : FD
  cl : Option Str
  gn : Str
def DF.qual (d : DF) : Str := match d.cl with
  | none => d.nm
  | some C => C ++ ("." : Str) ++ d.nm
def DF.at_ (d : DF) : Str × Option Str := match d.cl with
  | none => (d.gn, none)
  | some C => (C, some d.nm)
def DF.dd (d : DF) : He.DefD := ⟨d.at_, d.nm, d.qual, defArgs d.st, defBody d.st, defScope d.st, [], []⟩
def DF.chk (G : GE) (d : DF) : Bool := decide ((defScope d.st).kind = .function) && (decide ((defScope d.st).isCoroutine = false) && (decide ((defScope d.st).isGenerator = false) && (decide d.N.Nodup && (decide (d.N.take d.ps.length = d.ps) &&
  ((d.ps.all fun x => decide ((defScope d.st).names.lookup x = some .local ∨ (defScope d.st).names.lookup x = some .cell)) && (((defScope d.st).names.all fun y => decide (y.2 ≠ .free)) && (decide (d.ps.length = d.fd.np) && (decide (d.N.length = d.fd.ns) &&
  matSs ⟨G, d.N, none, true⟩ [] (defScope d.st) d.fd.body (defBody d.st)))))))))
theorem DF.scope {G : GE} {d : DF} (h : d.chk G = true) : FnScope d.N d.ps (defScope d.st) ∧ d.ps.length = d.fd.np ∧ d.N.length = d.fd.ns ∧ matSs ⟨G, d.N, none, true⟩ [] (defScope d.st) d.fd.body (defBody d.st) = true := by
  unfold DF.chk at h
  simp only [Bool.and_eq_true, decide_eq_true_eq, List.all_eq_true] at h
  obtain ⟨h1, h2, h3, h4, h5, h6, h7, h8, h9, h10⟩ := h
  exact ⟨⟨h1, h2, h3, h4, h5, h6, h7⟩, h8, h9, h10⟩
def DF.Bnd (d : DF) : Prop := ∀ (kV doc pm : Value) (an : Option Addr) (cdv ct : Value) (us : List Value), us.length = d.ps.length → bindArgs (PySem.W.fnOf d.nm d.qual (defArgs d.st) (defBody d.st) (defScope d.st) .none kV doc pm an cdv ct) ⟨us, []⟩ = pure (d.ps.zip us)
/-- what is asked of a class of objects -/
def oclF (d : OCl) : List He.Fa := .glo d.nm :: .cls d.nm :: (d.fl.map (fun f => .noat d.nm f) ++ (d.ms.map (fun p => .meth d.nm p.1) ++ (match d.ini with
  | some _ => [.mkr d.nm]
  | none => [])))
def fas (ds : List DF) (G : GE) : List He.Fa := ((ds.filter fun d => d.cl.isNone).map (fun d => .glo d.gn)) ++ (bnames.map .free ++ (G.gi.map (fun g => .int g.1 g.2) ++ (G.gs.map (fun g => .str g.1 g.2) ++ (G.cls.map (fun d => if d.own then .glo d.nm else .free "ValueError") ++ (G.ocl.flatMap oclF ++ G.gt.map fun g => .glo g.1)))))
def fns (ds : List DF) : List He.DefD := ds.map DF.dd
/-- the classes of exceptions -/
def clsE (K : PySem.W.Frag) (d : CDef) (c : Nat) (e : CDef) : Bool := (!e.own || decide (PySem.W.exmOne K (.ref (cA K d)) (.ref (cA K e)) = some (e.subs.contains c))) && decide (PySem.W.kitOne K (.ref (cA K d)) (cV K e) = some (e.subs.contains c))
def cls1 (K : PySem.W.Frag) (cl : List CDef) (d : CDef) (c : Nat) : Bool := PySem.W.keepIn K (.ref (cA K d)) && ((!d.fl.isEmpty || PySem.W.excIn K (cA K d) He.veBase "ValueError.__new__") && (decide (PySem.W.subIn K (.ref (cA K d)) (.type "BaseException") = some true) && (decide (PySem.W.typeIn K (.ref (cA K d)) = some (.type "type")) &&
  (He.eqO (PySem.W.findIn K (.ref (cA K d)) "__getattribute__") (some (some (.builtin "BaseException.__getattribute__"))) && (He.eqO (PySem.W.findIn K (.ref (cA K d)) "__getattr__") (some none) && (PySem.W.hasDictIn K (cA K d) && (He.eqO (PySem.W.findIn K (.ref (cA K d)) "__class__") (some (some (.builtin "object.__class__"))) &&
  (decide (PySem.W.specialIn K (.builtin "object.__class__") "__get__" = some (some (.builtin "getset_descriptor.__get__"))) && (decide (PySem.W.takesIn K (.builtin "object.__class__") = some true) && (decide (PySem.W.mroIn K (cA K d) (.type "object") = some true) && (decide d.fl.Nodup && (d.fl.all (fun f => He.eqO (PySem.W.findIn K (.ref (cA K d)) f) (some none)) && cl.all (clsE K d c)))))))))))))
/-! ### own __init__s -/
abbrev FnX : Type := Option (Str × Str × Arguments × FuncBody × Scope × Addr × List Str × Addr × Bool)
def isNon : Value → Bool
  | .none => true
  | _ => false
/-- what stands at a class's __init__ -/
def iniW (K : PySem.W.Frag) (d : CDef) : FnX := match d.ini with
  | none => none
  | some _ => (match K.lookup (He.ma K (cA K d) "__init__") with
    | some ⟨_, _, .func fd, _⟩ => some (fd.name, fd.qualname, fd.params, fd.body, fd.scope, fd.globals, fd.closure.map (·.1), fd.builtins, isNon fd.defaults)
    | _ => none)
def iniQ (d : CDef) : Str := d.nm ++ (".__init__" : Str)
def iniV (d : CDef) : FnX := match d.ini with
  | none => none
  | some i => some ("__init__", iniQ d, defArgs i.st, .stmts (defBody i.st), defScope i.st, mainGlobals, ["__class__"], builtinsNs, true)
def oexB (K : PySem.W.Frag) (C : Addr) : Bool := match K.lookup C with
  | some ⟨.type t, _, .cls cd, sl⟩ => (match cd.mro, sl.toList with
    | .ref C' :: bm, [_, _, _, _, some (.builtin n), _] => decide (t = "type") && (decide (C' = C) && (decide (n = "ValueError.__new__") && (!cd.hasDel && (cd.hasDict && PySem.HandSPX.refsVE bm))))
    | _, _ => false)
  | _ => false
theorem oexB_ok {K : PySem.W.Frag} {C : Addr} (h : oexB K C = true) : ∃ nm q N bs bm sn sub ab col dd k0 k1 k2 k3 k5, K.lookup C = some (excClassObj nm q C N bs bm true sn sub ab col dd k0 k1 k2 k3 k5 "ValueError.__new__") ∧ PySem.HandSPX.refsVE bm = true := by
  unfold oexB at h
  split at h
  · rename_i t dd cd sl ho
    split at h
    · rename_i C' bm k0 k1 k2 k3 n k5 hm hs
      simp only [Bool.and_eq_true, decide_eq_true_eq, Bool.not_eq_true'] at h
      obtain ⟨rfl, rfl, rfl, hdel, hdct, hv⟩ := h
      obtain ⟨nm, bs, mro, ns, qn, hd, sn, sub, ab, col, del⟩ := cd
      dsimp only at hm hdel hdct
      subst hm hdel hdct
      obtain ⟨l⟩ := sl
      simp only at hs
      subst hs
      exact ⟨_, _, _, _, _, _, _, _, _, _, _, _, _, _, _, ho, hv⟩
    · cases h
  · cases h
def cellB (K : PySem.W.Frag) (cc C : Addr) : Bool := match K.lookup cc with
  | some ⟨_, _, .cell (some (.ref D)), _⟩ => decide (D = C)
  | _ => false
theorem cellB_ok {K : PySem.W.Frag} {cc C : Addr} (h : cellB K cc C = true) : ∃ (cl : Value) (cld : Option Addr) (csl : Array (Option Value)), K.lookup cc = some ⟨cl, cld, .cell (some (.ref C)), csl⟩ := by
  unfold cellB at h
  split at h
  · rename_i a b D c e
    have := of_decide_eq_true h
    subst this
    exact ⟨_, _, _, e⟩
  · cases h
def fileB (P : Program) (K : PySem.W.Frag) (cda : Addr) : Bool := match K.lookup cda with
  | some ⟨_, _, .fields vs, _⟩ => (match (vs[2]? : Option Value) with
    | some (.str file _) => ((P.main.file : Str) == file)
    | _ => false)
  | _ => false
theorem fileB_ok {P : Program} {K : PySem.W.Frag} {cda : Addr} (h : fileB P K cda = true) : ∃ (ccl : Value) (cdd : Option Addr) (vs : Array Value) (ccs : Array (Option Value)) (file : Str) (tf : Tok), K.lookup cda = some ⟨ccl, cdd, .fields vs, ccs⟩ ∧ vs[2]? = some (.str file tf) ∧ ((P.main.file : Str) == file) = true := by
  unfold fileB at h
  split at h
  · rename_i a b vs c e
    split at h
    · rename_i file tf e2
      exact ⟨_, _, vs, _, file, tf, e, e2, h⟩
    · cases h
  · cases h
def iniK (P : Program) (K : PySem.W.Frag) (d : CDef) : Bool := match K.lookup (He.ma K (cA K d) "__init__") with
  | some ⟨_, _, .func fd, _⟩ => (match fd.code, fd.closure with
    | .ref cda, [(_, cc)] => PySem.W.codeIn K (.ref cda) (iniQ d) && (fileB P K cda && cellB K cc (cA K d))
    | _, _ => false)
  | _ => false
def iniChk (P : Program) (K : PySem.W.Frag) (d : CDef) (i : Ini) : Bool := oexB K (cA K d) && (He.eqO (PySem.W.findIn K (.ref (cA K d)) "__setattr__") (some (some (.builtin "object.__setattr__"))) && (He.eqO (PySem.W.findIn K (.ref (cA K d)) "__init__") (some (some (.ref (He.ma K (cA K d) "__init__")))) &&
  (decide (PySem.W.typeIn K (.ref (He.ma K (cA K d) "__init__")) = some (.type "function")) && ((PySem.W.clsIn K (cA K d)).isSome && (decide (PySem.W.mroIn K (cA K d) (.ref (cA K d)) = some true) && (He.eqO (PySem.W.ks_superIn K (cA K d) (cA K d) "__init__") (some (some (.builtin veI))) &&
  (decide (PySem.W.subIn K (.ref (cA K d)) (.type "ValueError") = some true) && (He.eqO (PySem.W.nsIn K cStatics "thirdparty.any") (some none) && (He.eqO (PySem.W.nsIn K mainGlobals "super") (some none) && (!(P.main.scope.names.lookup ("super" : Str)).isSome &&
  (decide (((defArgs i.st).posonlyargs ++ (defArgs i.st).args).head?.map (·.arg) = some ("self" : Str)) && (iniB i d.fl && iniK P K d))))))))))))
def IniBnd (d : CDef) (i : Ini) : Prop := ∀ (kV doc pm : Value) (an : Option Addr) (cdv ct : Value) (cc : Addr) (us : List Value), us.length = i.ps.length → bindArgs (PySem.W.ksFn "__init__" (iniQ d) (defArgs i.st) (defBody i.st) (defScope i.st) .none kV doc pm an cdv ct cc) ⟨us, []⟩ = pure (i.ps.zip us)
theorem ini_ok {P : Program} {K : PySem.W.Frag} {d : CDef} {i : Ini} (hi : d.ini = some i) (cb : iniChk P K d i = true) (ev : iniW K d = iniV d) (hb : IniBnd d i) (kC : PySem.W.keepIn K (.ref (cA K d)) = true) (sC : PySem.W.subIn K (.ref (cA K d)) (.type "BaseException") = some true) (tC : PySem.W.typeIn K (.ref (cA K d)) = some (.type "type")) : IniOk P K (cA K d) d.fl i := by
  unfold iniChk at cb
  simp only [Bool.and_eq_true, decide_eq_true_eq, Bool.not_eq_true'] at cb
  obtain ⟨c1, c2, c3, c4, c5, c6, c7, c8, c9, c10, c11, c12, c13, c14⟩ := cb
  unfold iniW iniV at ev
  rw [hi] at ev
  unfold iniK at c14
  split at c14
  · rename_i oc od fd osl lk
    rw [lk] at ev
    split at c14
    · rename_i cda nmc cc hcode hclo
      simp only [Bool.and_eq_true] at c14
      obtain ⟨k1, k2, k3⟩ := c14
      obtain ⟨n1, n2, n3, n4, n5, n6, n7, n8, n9, n10, n11, n12, n13, n14, n15⟩ := fd
      dsimp only at hcode hclo
      subst hcode hclo
      simp only [Option.some.injEq, Prod.mk.injEq, List.map_cons, List.map_nil, List.cons.injEq, and_true] at ev
      obtain ⟨e1, e2, e3, e4, e5, e6, e7, e8, e9⟩ := ev
      have e10 : n8 = .none := by
        cases n8 <;> simp [isNon] at e9 ⊢
      subst e1 e2 e3 e4 e5 e6 e7 e8 e10
      refine ⟨_, cda, cc, iniQ d, _, ⟨⟨oexB_ok c1, He.eqO_ok c2, sC, tC, kC⟩, ⟨oc, od, .none, n9, n10, n11, n14, n12, osl, rfl, lk⟩, k1, fileB_ok k2, cellB_ok k3, Option.isSome_iff_exists.mp c5, c6, He.eqO_ok c7, c8, He.eqO_ok c9, He.eqO_ok c10, c11, c12⟩, .all (hb n9 n10 n11 n12 (.ref cda) n14 cc), He.eqO_ok c3, c4, c13⟩
    · cases c14
  · cases c14
def clsGo (P : Program) (K : PySem.W.Frag) (cl : List CDef) : List CDef → Nat → Bool
  | [], _ => true
  | d :: r, c => (!d.own || (cls1 K cl d c && (match d.ini with
    | some i => iniChk P K d i
    | none => true))) && (d.own || decide (d.nm = "ValueError")) && clsGo P K cl r (c + 1)
def clsB (P : Program) (cl : List CDef) (K : PySem.W.Frag) : Bool := clsGo P K cl cl 0
theorem clsGo_at {P : Program} {K : PySem.W.Frag} {cl : List CDef} : ∀ (l : List CDef) (i : Nat), clsGo P K cl l i = true → ∀ (c : Nat) (d : CDef), l[c]? = some d → (d.own = true → cls1 K cl d (i + c) = true ∧ ∀ j, d.ini = some j → iniChk P K d j = true) ∧ (d.own = false → d.nm = "ValueError")
  | [], _, _, _, _, e => by simp at e
  | x :: l, i, h, c, d, e => by
    simp only [clsGo, Bool.and_eq_true, Bool.or_eq_true, Bool.not_eq_true', decide_eq_true_eq] at h
    obtain ⟨⟨h1, h2⟩, h3⟩ := h
    cases c with
    | zero =>
      simp at e
      subst e
      refine ⟨fun z => ?_, fun z => ?_⟩
      · rcases h1 with q | q
        · rw [z] at q; cases q
        · exact ⟨q.1, fun j ej => by have q2 := q.2; rw [ej] at q2; exact q2⟩
      · rcases h2 with q | q
        · rw [z] at q; cases q
        · exact q
    | succ c =>
      have := clsGo_at l (i + 1) h3 c d (by simpa using e)
      rw [show i + 1 + c = i + (c + 1) by omega] at this
      exact this
/-! ### the head's facts, and one more Bool -/
abbrev AlE : Type := He.AlD × Bool × List FnX
def asX (g : Addr → Option Obj) (n : Nat) : List Addr := cStatics :: He.asD g n
def obsE (n : Nat) (fa : List He.Fa) (fn : List He.DefD) (ex : PySem.W.Frag → Bool) (cl : List CDef) (g : Addr → Option Obj) : AlE := (He.obsD fa fn (He.frG g (asX g n)), ex (He.frG g (asX g n)), cl.map (iniW (He.frG g (asX g n))))
def hookE (n : Nat) (fa : List He.Fa) (fn : List He.DefD) (ex : PySem.W.Frag → Bool) (cl : List CDef) : PySem.W.Hook where
  α := AlE
  obs := fun s => obsE n fa fn ex cl s.heap.get?
  val := fun _ => (He.valD fn, true, cl.map iniV)
  says := fun _ h => ∃ K : PySem.W.Frag, K.In h ∧ He.SaysD fa fn K ∧ ex K = true ∧ cl.map (iniW K) = cl.map iniV
  of := fun _ _ e => ⟨_, He.frG_in, congrArg (fun z : AlE => z.1) e, congrArg (fun z : AlE => z.2.1) e, congrArg (fun z : AlE => z.2.2) e⟩
  keeps := fun _ _ _ ⟨K, hK, c⟩ k => ⟨K, PySem.W.Frag.In.keeps hK k, c⟩
theorem obsE_eq {n : Nat} {fa : List He.Fa} {fn : List He.DefD} {ex : PySem.W.Frag → Bool} {cl : List CDef} {g : Addr → Option Obj} {s : Shared} (h : ∀ a, g a = s.heap.get? a) : obsE n fa fn ex cl g = (hookE n fa fn ex cl).obs s := by
  have e : g = s.heap.get? := funext h
  rw [e] <;> rfl

section
variable {P : Program} {w : World} {K : PySem.W.Frag} {mg : Str → Option Value} {h : Heap} {ds : List DF} {G0 : GE}
theorem glo_at (X : K.In h) (G : h.Ns mainGlobals mg) (c : He.SaysD (fas ds G0) (fns ds) K) {i : Nat} {d : DF} (e : ds[i]? = some d) (hc : d.cl = none) : mg d.gn = some (.ref (He.ga K d.gn)) := by
  obtain ⟨j, hj⟩ := List.getElem?_of_mem (show He.Fa.glo d.gn ∈ fas ds G0 from List.mem_append_left _ (List.mem_map.mpr ⟨d, List.mem_filter.mpr ⟨List.mem_of_getElem? e, by rw [hc]; rfl⟩, rfl⟩))
  exact He.glo_ok X G (c.fact j hj)
theorem def_at (c : He.SaysD (fas ds G0) (fns ds) K) {i : Nat} {d : DF} (e : ds[i]? = some d) : ∃ fd, FunD K d.nm d.qual (defArgs d.st) (defBody d.st) (defScope d.st) [] [] (He.fAd K d.at_) fd := by
  have e2 : (fns ds)[i]? = some d.dd := by unfold fns; rw [List.getElem?_map, e]; rfl
  exact c.def_ i e2
theorem free_at (X : K.In h) (G : h.Ns mainGlobals mg) (c : He.SaysD (fas ds G0) (fns ds) K) : ∀ x ∈ bnames, mg x = none := fun x hx => by
  obtain ⟨j, hj⟩ := List.getElem?_of_mem (show He.Fa.free x ∈ fas ds G0 from List.mem_append_right _ (List.mem_append_left _ (List.mem_map.mpr ⟨x, hx, rfl⟩)))
  exact He.free_ok X G (c.fact j hj)
theorem int_at (X : K.In h) (G : h.Ns mainGlobals mg) (c : He.SaysD (fas ds G0) (fns ds) K) : ∀ x i, (x, i) ∈ G0.gi → ∃ t, mg x = some (.int i t) := fun x v hx => by
  obtain ⟨j, hj⟩ := List.getElem?_of_mem (show He.Fa.int x v ∈ fas ds G0 from List.mem_append_right _ (List.mem_append_right _ (List.mem_append_left _ (List.mem_map.mpr ⟨_, hx, rfl⟩))))
  exact He.int_ok X G (c.fact j hj)
theorem str_at (X : K.In h) (G : h.Ns mainGlobals mg) (c : He.SaysD (fas ds G0) (fns ds) K) : ∀ x z, (x, z) ∈ G0.gs → ∃ t, mg x = some (.str z t) := fun x v hx => by
  obtain ⟨j, hj⟩ := List.getElem?_of_mem (show He.Fa.str x v ∈ fas ds G0 from List.mem_append_right _ (List.mem_append_right _ (List.mem_append_right _ (List.mem_append_left _ (List.mem_map.mpr ⟨_, hx, rfl⟩)))))
  exact He.str_ok X G (c.fact j hj)
theorem cls_fa {d : CDef} (hd : d ∈ G0.cls) : (if d.own then He.Fa.glo d.nm else .free "ValueError") ∈ fas ds G0 := List.mem_append_right _ (List.mem_append_right _ (List.mem_append_right _ (List.mem_append_right _ (List.mem_append_left _ (List.mem_map.mpr ⟨d, hd, rfl⟩)))))
theorem cls_at (X : K.In h) (G : h.Ns mainGlobals mg) (c : He.SaysD (fas ds G0) (fns ds) K) (cb : clsB P G0.cls K = true) (cx : G0.cls.map (iniW K) = G0.cls.map iniV) (ib : ∀ d ∈ G0.cls, ∀ i, d.ini = some i → IniBnd d i) (i : Nat) (d : CDef) (hd : G0.cls[i]? = some d) (ho : d.own = true) : ClsOk P K mg G0.cls i d := by
  obtain ⟨j, hj⟩ := List.getElem?_of_mem (cls_fa (ds := ds) (List.mem_of_getElem? hd))
  rw [if_pos ho] at hj
  have g := He.glo_ok X G (c.fact j hj)
  obtain ⟨q, qi⟩ := (clsGo_at _ 0 cb i d hd).1 ho
  rw [Nat.zero_add] at q
  unfold cls1 at q
  simp only [Bool.and_eq_true, decide_eq_true_eq, Bool.or_eq_true, Bool.not_eq_true', List.all_eq_true] at q
  obtain ⟨q1, q2, q3, q4, q5, q6, q7, q8, q9, q10, q11, q12, q13, q14⟩ := q
  have ci : iniW K d = iniV d := by
    have e1 : (G0.cls.map (iniW K))[i]? = (G0.cls.map iniV)[i]? := by rw [cx]
    rw [List.getElem?_map, List.getElem?_map, hd] at e1
    exact Option.some.inj e1
  refine ⟨g, q1, fun z => ?_, q3, q4, ⟨He.eqO_ok q5, He.eqO_ok q6, q3, q7, He.eqO_ok q8, q9, q10, q11⟩, q12, fun f hf => He.eqO_ok (q13 f hf), fun j e he ho => ?_, fun j e he => ?_, fun j ej => ini_ok ej (qi j ej) ci (ib d (List.mem_of_getElem? hd) j ej) q1 q3 q4⟩
  · rcases q2 with q2 | q2
    · rw [z] at q2; cases q2
    · exact q2
  · have := q14 e (List.mem_of_getElem? he)
    unfold clsE at this
    simp only [Bool.and_eq_true, decide_eq_true_eq, Bool.or_eq_true, Bool.not_eq_true'] at this
    rcases this.1 with z | z
    · rw [ho] at z; cases z
    · exact z
  · have := q14 e (List.mem_of_getElem? he)
    unfold clsE at this
    simp only [Bool.and_eq_true, decide_eq_true_eq] at this
    exact this.2
theorem bcl_at (X : K.In h) (G : h.Ns mainGlobals mg) (c : He.SaysD (fas ds G0) (fns ds) K) (cb : clsB P G0.cls K = true) : ∀ d ∈ G0.cls, d.own = false → mg d.nm = none ∧ d.nm = "ValueError" := fun d hd ho => by
  obtain ⟨j, hj⟩ := List.getElem?_of_mem (cls_fa (ds := ds) hd)
  rw [ho, if_neg (by simp)] at hj
  obtain ⟨i, hi⟩ := List.getElem?_of_mem hd
  have e := (clsGo_at _ 0 cb i d hi).2 ho
  rw [e]
  exact ⟨He.free_ok X G (c.fact j hj), rfl⟩
theorem def_ok (c : He.SaysD (fas ds G0) (fns ds) K) (ck : ds.all (DF.chk G0) = true) (bd : ∀ d ∈ ds, d.Bnd) {f : Nat} {d : DF} (e : ds[f]? = some d) : DefAt K (ds.map (·.fd)) G0 f (He.fAd K d.at_) := by
  obtain ⟨fdt, FD'⟩ := def_at c e
  have hm := List.mem_of_getElem? e
  obtain ⟨h1, h2, h3, h4⟩ := DF.scope (List.all_eq_true.mp ck d hm)
  exact ⟨d.fd, d.nm, d.qual, defArgs d.st, defBody d.st, defScope d.st, fdt, d.ps, d.N, by rw [List.getElem?_map, e]; rfl, FD', h1, h2, h3, h4, FD'.bindsN (bd d hm)⟩
def fnN (ds : List DF) : List (Option Str) := ds.map fun d => if d.cl.isNone then some d.gn else none
theorem fn_at (X : K.In h) (G : h.Ns mainGlobals mg) (c : He.SaysD (fas ds G0) (fns ds) K) (hfn : G0.fn = fnN ds) (ck : ds.all (DF.chk G0) = true) (bd : ∀ d ∈ ds, d.Bnd) (f : Nat) (x : Str) (e : G0.fn[f]? = some (some x)) : ∃ a, mg x = some (.ref a) ∧ PySem.W.keepIn K (.ref a) = true ∧ DefAt K (ds.map (·.fd)) G0 f a := by
  rw [hfn] at e
  unfold fnN at e
  rw [List.getElem?_map] at e
  cases e2 : ds[f]? with
  | none => rw [e2] at e; cases e
  | some d =>
    rw [e2] at e
    simp only [Option.map_some, Option.some.injEq] at e
    split at e
    · rename_i hc
      cases e
      have hc := Option.isNone_iff_eq_none.mp hc
      have D := def_ok c ck bd e2
      have at0 : He.fAd K d.at_ = He.ga K d.gn := by
        unfold DF.at_
        rw [hc]
        rfl
      rw [at0] at D
      refine ⟨_, glo_at X G c e2 hc, ?_, D⟩
      obtain ⟨fdt, FD'⟩ := def_at c e2
      rw [at0] at FD'
      exact FD'.kp
    · cases e
/-- a tuple of texts at the top -/
def valsS : List Value → List Str → Bool
  | [], [] => true
  | .str y _ :: vs, z :: zs => decide (y = z) && valsS vs zs
  | _, _ => false
theorem valsS_ok : ∀ {vs : List Value} {zs : List Str}, valsS vs zs = true → Vals (zs.map V.str) vs
  | [], [], _ => .nil
  | [], _ :: _, h => by simp [valsS] at h
  | v :: vs, [], h => by cases v <;> simp [valsS] at h
  | v :: vs, z :: zs, h => by
    cases v <;> simp [valsS] at h
    obtain ⟨rfl, h⟩ := h
    exact .cons ⟨_, rfl⟩ (valsS_ok h)
def tup1 (K : PySem.W.Frag) (g : Str × List Str) : Bool := match K.lookup (He.ga K g.1) with
  | some ⟨.type t, _, .seq its _, _⟩ => decide (t = "tuple") && (decide (its.size ≤ sizeLine) && valsS its.toList g.2)
  | _ => false
def tupsB (gt : List (Str × List Str)) (K : PySem.W.Frag) : Bool := gt.all (tup1 K)
def topB (P : Program) (G : GE) (K : PySem.W.Frag) : Bool := clsB P G.cls K && tupsB G.gt K
theorem gtup_at (X : K.In h) (G : h.Ns mainGlobals mg) (c : He.SaysD (fas ds G0) (fns ds) K) (ct : tupsB G0.gt K = true) : ∀ x z, (x, z) ∈ G0.gt → ∃ a, mg x = some (.ref a) ∧ TupK K a z := fun x z hx => by
  obtain ⟨j, hj⟩ := List.getElem?_of_mem (show He.Fa.glo x ∈ fas ds G0 from List.mem_append_right _ (List.mem_append_right _ (List.mem_append_right _ (List.mem_append_right _ (List.mem_append_right _ (List.mem_append_right _ (List.mem_map.mpr ⟨(x, z), hx, rfl⟩)))))))
  refine ⟨_, He.glo_ok X G (c.fact j hj), ?_⟩
  have q := List.all_eq_true.mp ct _ hx
  unfold tup1 at q
  split at q
  · rename_i t a its n b e
    simp only [Bool.and_eq_true, decide_eq_true_eq] at q
    obtain ⟨rfl, q1, q2⟩ := q
    exact ⟨_, its, n, e, rfl, rfl, q1, valsS_ok q2⟩
  · cases q
/-- the methods that the classes tell are those of the table -/
def mthB (ds : List DF) (d : OCl) (m : Str) (f : Nat) : Bool := match ds[f]? with
  | some e => decide (e.cl = some d.nm) && decide (e.nm = m)
  | none => false
def oclB (ds : List DF) (G : GE) : Bool := G.ocl.all fun d => (d.ms.all fun p => mthB ds d p.1 p.2) && (match d.ini with
  | some f => mthB ds d "__init__" f
  | none => true)
theorem mth_ok (c : He.SaysD (fas ds G0) (fns ds) K) (ck : ds.all (DF.chk G0) = true) (bd : ∀ d ∈ ds, d.Bnd) {d : OCl} {m : Str} {f : Nat} (h : mthB ds d m f = true) : DefAt K (ds.map (·.fd)) G0 f (He.ma K (He.ga K d.nm) m) := by
  unfold mthB at h
  split at h
  · rename_i e e2
    simp only [Bool.and_eq_true, decide_eq_true_eq] at h
    have D := def_ok c ck bd e2
    have at0 : He.fAd K e.at_ = He.ma K (He.ga K d.nm) m := by
      unfold DF.at_
      rw [h.1, ← h.2]
      rfl
    rw [at0] at D
    exact D
  · cases h
theorem ocl_fa {d : OCl} (hd : d ∈ G0.ocl) {x : He.Fa} (hx : x ∈ oclF d) : x ∈ fas ds G0 := List.mem_append_right _ (List.mem_append_right _ (List.mem_append_right _ (List.mem_append_right _ (List.mem_append_right _ (List.mem_append_left _ (List.mem_flatMap.mpr ⟨d, hd, hx⟩))))))
theorem fact_of (c : He.SaysD (fas ds G0) (fns ds) K) {x : He.Fa} (h : x ∈ fas ds G0) : x.ok K = true := by
  obtain ⟨j, hj⟩ := List.getElem?_of_mem h
  exact c.fact j hj
theorem ocl_at [Wd] (X : K.In h) (G : h.Ns mainGlobals mg) (c : He.SaysD (fas ds G0) (fns ds) K) (hca : ∀ i, Wd.ca i = He.ga K ((G0.ocl[i]?.map (·.nm)).getD "")) (i : Nat) (d : OCl) (e : G0.ocl[i]? = some d) : OclS K mg i d := by
  have hd := List.mem_of_getElem? e
  have F := fun (x : He.Fa) (hx : x ∈ oclF d) => fact_of c (ocl_fa (ds := ds) hd hx)
  refine ⟨by rw [hca, e]; rfl, He.glo_ok X G (F (.glo d.nm) (by simp [oclF])), He.cls_ok (F (.cls d.nm) (by simp [oclF])), fun f hf => He.noat_ok (F (.noat d.nm f) (by simp [oclF, hf])), fun m f hm => He.meth_ok (F (.meth d.nm m) ?_), fun f hf => He.mkr_ok (F (.mkr d.nm) (by simp [oclF, hf]))⟩
  simp only [oclF, List.mem_cons, List.mem_append, List.mem_map]
  exact .inr (.inr (.inr (.inl ⟨(m, f), hm, rfl⟩)))

def xr0 : XRel := fun _ _ _ _ _ _ => False
theorem dps_ints {F : Hp} : ∀ ns : List Int, DpAll K F (ns.map V.int) (ns.map PyData.int)
  | [] => .nil
  | n :: ns => .cons (.int n) (dps_ints ns)
theorem start_sp [Wd] {xr : XRel} {n i : Nat} {T : List FD} {fd : FD} (eT : T[i]? = some fd) (hn : fd.np = 1) {H : Hp} {a : Addr} {ns : List Int} (s : SqL K H a (ns.map V.int)) {hz : Hq} (pl : callN T n 0 i [.d (.list (ns.map .int))] [] = .ok (.d (.bool true)) hz) :
    spF K xr T n i [.ref a] H (fun v _ => v = .bl true) fun _ _ _ => False := by
  refine ⟨fd, eT, by rw [hn]; rfl, [0], 0, [], H, [.d (.list (ns.map .int))], [], by simp, by simp, ⟨rfl, by simp, fun n o a e => by simp at e, .refl _, by simp, ?_⟩, .cons (.lst s (dps_ints ns)) .nil, ?_⟩
  · intro c hc
    simp only [List.mem_singleton] at hc
    subst hc
    exact ⟨by simp, fun n o k hn => by omega⟩
  · rw [pl]
    intro v m' F' H' x r rv
    have rv : Dp K F' v (.bool true) := rv
    cases rv
    rfl

/-- whatever the world: what a def lets out -/
def CXW (P : Program) : CXT := fun outer H s E u s' => ∃ w, L2.CX P w outer H s E u s'
theorem CXW.none {H : Hp} {s : Shared} {e : Value} {s' : Shared} (z : CXW P [] H s (fun _ _ _ => False) e s') : False := by
  obtain ⟨_, _, _, _, _, _, _, _, _, _, _, _, _, z⟩ := z
  exact z
theorem FnG.toW {base : Heap} {k : Nat} {f : Addr} {fd : FuncData} {ps : List Str} {sp : Sp} (F : FnG P w K mg base (L2.CX P w) k f fd ps sp) : FnG P w K mg base (CXW P) k f fd ps sp :=
  ⟨F.lenG, fun A gd outer s H args us vs Q E hr he hb hv hs => codeAny_mono (F.runG A gd outer s H args us vs Q E hr he hb hv hs) fun r s' q => by
    cases r with
    | error e => exact ⟨w, q⟩
    | ok fl => cases fl <;> exact q⟩
/-- the law's facts -/
theorem law_facts {n i : Nat} {d : DF} {f : Addr} (X : K.In h) (G : h.Ns mainGlobals mg) (c : He.SaysD (fas ds G0) (fns ds) K) (hfn : G0.fn = fnN ds) (ck : ds.all (DF.chk G0) = true) (co : oclB ds G0 = true) (cb : topB P G0 K = true) (cx : G0.cls.map (iniW K) = G0.cls.map iniV) (ib : ∀ d ∈ G0.cls, ∀ i, d.ini = some i → IniBnd d i) (bd : ∀ d ∈ ds, d.Bnd) (e : ds[i]? = some d) (hps : d.ps = [("_law_script" : Str)]) (hcl : d.cl = none) (hfa : mg d.gn = some (.ref f))
    (pl : ∀ ns : List Int, ns.length ≤ 63 → ∃ hz, callN (ds.map (·.fd)) (n + 1) 0 i [.d (.list (ns.map .int))] [] = .ok (.d (.bool true)) hz) :
    ∃ (K : PySem.W.Frag) (fd : FuncData) (sp : Sp), K.In h ∧ (∀ (s : Shared) (u : Value), BindsTo s fd ⟨[u], []⟩ [("_law_script", u)]) ∧
        (∀ (H : Hp) (a : Addr) (ns : List Int), ns.length ≤ 63 → Only H → SqL K H a (ns.map V.int) → sp [.ref a] H (fun v _ => v = .bl true) fun _ _ _ => False) ∧
        ∀ base : Heap, K.In base → base.Ns mainGlobals mg → FnG P w K mg base (CXW P) (2 * (n + 1) + 2) f fd ["_law_script"] sp := by
  obtain ⟨cb, ct⟩ : clsB P G0.cls K = true ∧ tupsB G0.gt K = true := by
    unfold topB at cb
    exact Bool.and_eq_true_iff.mp cb
  letI : Wd := ⟨w, fun i => He.ga K ((G0.ocl[i]?.map (·.nm)).getD "")⟩
  obtain ⟨fdt, FD'⟩ := def_at c e
  have hm := List.mem_of_getElem? e
  obtain ⟨h1, h2, h3, h4⟩ := DF.scope (List.all_eq_true.mp ck d hm)
  have hg := glo_at X G c e hcl
  rw [hfa] at hg
  have at0 : He.fAd K d.at_ = He.ga K d.gn := by
    unfold DF.at_
    rw [hcl]
    rfl
  rw [at0] at FD'
  have hfe : f = He.ga K d.gn := by cases hg; rfl
  subst hfe
  have g : GOk P w K mg (xrC K G0.cls) (ds.map (·.fd)) G0 := ⟨rfl, free_at X G c, rfl, int_at X G c, str_at X G c, gtup_at X G c ct, cls_at X G c cb cx ib, bcl_at X G c cb, fn_at X G c hfn ck bd, ocl_at X G c fun _ => rfl, fun i d m f e hm => by
    have q := List.all_eq_true.mp co d (List.mem_of_getElem? e)
    rw [Bool.and_eq_true] at q
    rcases hm with hm | ⟨rfl, hi⟩
    · exact mth_ok c ck bd (List.all_eq_true.mp q.1 (m, f) hm)
    · have q2 := q.2
      rw [hi] at q2
      exact mth_ok c ck bd q2⟩
  refine ⟨K, fdt, spF K (xrC K G0.cls) (ds.map (·.fd)) (n + 1) i, X, fun s v => ?_, fun H a ns hl hO hS => ?_, fun base hb hn => ?_⟩
  · have b := FunD.bindsA (ps := d.ps) FD' (bd d hm) s [v] (by rw [hps]; rfl)
    rw [hps] at b
    exact b
  · obtain ⟨hz, pl⟩ := pl ns hl
    exact start_sp (by rw [List.getElem?_map, e]; rfl) (by rw [← h2, hps]; rfl) hS pl
  · rw [← hps]
    exact Ev.FnG.toW <| fnStep g (fnAll g n) (by rw [List.getElem?_map, e]; rfl) FD' h1 h2 h3 h4
end
end Ev

/-! EvP: lemmas to run the terms by simp. -/
namespace Ev
open PySem

/-- not by unfolding (the kernel would unfold in its own order) -/
theorem nr {α : Sort _} {a b : α} (h : a = b) : a = b := h ▸ rfl
section
variable (b : Nat) (C : CallF) (env : Vars) (h : Hq)
@[simp] theorem b_ex {α β : Type} (c : Nat) (ds : List PyData) (h : Hq) (f : α → Hq → R β) : (R.ex c ds h : R α).bind f = .ex c ds h := nr rfl
@[simp] theorem b_ok {α β : Type} (a : α) (h : Hq) (f : α → Hq → R β) : (R.ok a h).bind f = f a h := nr rfl
@[simp] theorem x_var (i : Nat) : evE b C (.var i) env h = (match env[i]? with
    | some (some w) => .ok w h
    | _ => .bad) := by (simp only [evE]) <;> rfl
@[simp] theorem x_glb (i : Int) : evE b C (.glb i) env h = .ok (.d (.int i)) h := by simp only [evE]
@[simp] theorem x_glbT (z : List Str) : evE b C (.glbT z) env h = .ok (.d (.tuple (z.map .str))) h := by simp only [evE]
@[simp] theorem x_glbS (z : Str) : evE b C (.glbS z) env h = .ok (.d (.str z)) h := by simp only [evE]
theorem x_exis {i c : Nat} {cs : List Nat} {ds : List PyData} (e : env[i]? = some (some (.x c ds))) : evE b C (.exis i cs) env h = .ok (.d (.bool (cs.contains c))) h := by simp only [evE, e]
theorem x_exfld {i c : Nat} {js : List (Nat × Nat)} {ds : List PyData} {j : Nat} {d : PyData} (e : env[i]? = some (some (.x c ds))) (ej : js.lookup c = some j) (ed : ds[j]? = some d) : evE b C (.exfld i js) env h = .ok (.d d) h := by simp only [evE, e, ej, Option.bind_some, ed]
theorem s_raism {c k : Nat} {g : Mg} {es : Es} {ws : List W} {h' : Hq} {ds : List PyData} (e : evEs b C es env h = .ok ws h') (ed : allD ws = some ds) (el : ds.length = k) (em : (evMg g ds).isSome = true) : evS b C (.raism c g k es) env h = .ex c ds.reverse h' := by simp only [evS, e, R.bind, ed, el, em, true_and, if_true]
@[simp] theorem s_rais0 (c : Nat) : evS b C (.rais c .nil) env h = .ex c [] h := by simp only [evS, evEs, R.bind, allD]
theorem s_try (cs : List Nat) (nm : Option Nat) (kp : List Nat) (x y : Ss) : evS b C (.tryS cs nm kp x y) env h = (match evSs b C x env h with
    | .ex c ds h' => if cs.contains c then if !nmIn nm env then .bad else clrF nm (evSs b C y (setN nm (.x c ds) (keepE kp 0 env)) h') else .ex c ds h'
    | r => r) := by (simp only [evS]) <;> rfl
theorem s_try_ok {cs : List Nat} {nm : Option Nat} {kp : List Nat} {x y : Ss} {f : Fl} {h' : Hq} (e : evSs b C x env h = .ok f h') : evS b C (.tryS cs nm kp x y) env h = .ok f h' := by simp only [s_try, e]
theorem s_try_ex {cs : List Nat} {nm : Option Nat} {kp : List Nat} {x y : Ss} {c : Nat} {ds : List PyData} {h' : Hq} (e : evSs b C x env h = .ex c ds h') (hc : cs.contains c = true) (hn : nmIn nm env = true) : evS b C (.tryS cs nm kp x y) env h = clrF nm (evSs b C y (setN nm (.x c ds) (keepE kp 0 env)) h') := by
  simp only [s_try, e, hc, hn, if_true, Bool.not_true, Bool.false_eq_true, if_false]
@[simp] theorem x_trg (t : Bool) (a : E) : evE b C (.trg t a) env h = (evE b C a env h).bind fun w h => match w with
    | .d (.int n) => if rgOk 0 n then .ok (.d ((if t then PyData.tuple else PyData.list) ((List.range n.toNat).map fun i => .int (i : Nat)))) h else .bad
    | _ => .bad := by (simp only [evE]) <;> rfl
@[simp] theorem x_isa (c : Ity) (a : E) : evE b C (.isa c a) env h = (evE b C a env h).bind fun w h => match toD h w with
    | some x => .ok (.d (.bool (isaD c x))) h
    | none => .bad := by (simp only [evE]) <;> rfl
@[simp] theorem x_dlg (kvs : List (Str × Int)) (k d : E) : evE b C (.dlg kvs k d) env h = (evE b C k env h).bind fun v h => (evE b C d env h).bind fun w h => match v with
    | .d (.str s) => .ok (match dlook kvs s with
      | some i => .d (.int i)
      | none => w) h
    | _ => .bad := by (simp only [evE]) <;> rfl
@[simp] theorem x_lit (c : PyData) : evE b C (.lit c) env h = .ok (.d c) h := by (simp only [evE]) <;> rfl
@[simp] theorem x_tup (es : Es) : evE b C (.tup es) env h = (evEs b C es env h).bind fun ws h => match allD ws with
    | some ds => .ok (.d (.tuple ds)) h
    | none => .bad := by (simp only [evE]) <;> rfl
@[simp] theorem x_lst (es : Es) : evE b C (.lst es) env h = (evEs b C es env h).bind fun ws h => match allD ws with
    | some ds => .ok (.d (.list ds)) h
    | none => .bad := by (simp only [evE]) <;> rfl
@[simp] theorem x_lstM (es : Es) : evE b C (.lstM es) env h = (evEs b C es env h).bind fun ws h => match allD ws with
    | some ds => .ok (.l h.length) (h ++ [.lst ds])
    | none => .bad := by (simp only [evE]) <;> rfl
@[simp] theorem x_bin (o : Operator) (x y : E) : evE b C (.bin o x y) env h = (evE b C x env h).bind fun v h => (evE b C y env h).bind fun w h => op2 (evBin o) v w h := by (simp only [evE]) <;> rfl
@[simp] theorem x_binM (o : Operator) (x y : E) : evE b C (.binM o x y) env h = (evE b C x env h).bind fun v h => (evE b C y env h).bind fun w h => opM (evBin o) v w h := by (simp only [evE]) <;> rfl
@[simp] theorem x_neg (x : E) : evE b C (.neg x) env h = (evE b C x env h).bind fun v h => match v with
    | .d (.int i) => .ok (.d (.int (-i))) h
    | _ => .bad := by (simp only [evE]) <;> rfl
@[simp] theorem x_nt (x : E) : evE b C (.nt x) env h = (evE b C x env h).bind fun v h => match v with
    | .d (.bool k) => .ok (.d (.bool (!k))) h
    | _ => .bad := by (simp only [evE]) <;> rfl
@[simp] theorem x_cmp (o : CmpOp) (x y : E) : evE b C (.cmp o x y) env h = (evE b C x env h).bind fun v h => (evE b C y env h).bind fun w h => cmpW o v w h := by (simp only [evE]) <;> rfl
@[simp] theorem x_one (x : E) : evE b C (.one x) env h = evE b C x env h := by (simp only [evE]) <;> rfl
@[simp] theorem x_and (x y : E) : evE b C (.and x y) env h = (evE b C x env h).bind fun v h => match v with
    | .d (.bool true) => evE b C y env h
    | .d (.bool false) => .ok (.d (.bool false)) h
    | _ => .bad := by (simp only [evE]) <;> rfl
@[simp] theorem x_or (x y : E) : evE b C (.or x y) env h = (evE b C x env h).bind fun v h => match v with
    | .d (.bool true) => .ok (.d (.bool true)) h
    | .d (.bool false) => evE b C y env h
    | _ => .bad := by (simp only [evE]) <;> rfl
@[simp] theorem x_ife (c x y : E) : evE b C (.ife c x y) env h = (evE b C c env h).bind fun v h => match v with
    | .d (.bool true) => evE b C x env h
    | .d (.bool false) => evE b C y env h
    | _ => .bad := by (simp only [evE]) <;> rfl
@[simp] theorem x_idx (x i : E) : evE b C (.idx x i) env h = (evE b C x env h).bind fun v h => (evE b C i env h).bind fun w h => evIdx h v w := by (simp only [evE]) <;> rfl
@[simp] theorem x_slcM (x : E) (lo hi : Oe) : evE b C (.slcM x lo hi) env h = (evE b C x env h).bind fun v h => (evOe b C lo env h).bind fun l h => match intO l with
    | some l => (evOe b C hi env h).bind fun u h => match intO u with
      | some u => evSlcM h v l u
      | none => .bad
    | none => .bad := by (simp only [evE]) <;> rfl
@[simp] theorem x_slc (x : E) (lo hi : Oe) : evE b C (.slc x lo hi) env h = (evE b C x env h).bind fun v h => (evOe b C lo env h).bind fun l h => match intO l with
    | some l => (evOe b C hi env h).bind fun u h => match intO u with
      | some u => evSlc h v l u
      | none => .bad
    | none => .bad := by (simp only [evE]) <;> rfl
@[simp] theorem x_rev (x : E) : evE b C (.rev x) env h = (evE b C x env h).bind fun v h => evRev h v := by (simp only [evE]) <;> rfl
@[simp] theorem x_blt (f : Bt) (es : Es) : evE b C (.blt f es) env h = (evEs b C es env h).bind fun ws h => evB f ws h := by (simp only [evE]) <;> rfl
@[simp] theorem x_mth (f : Mt) (o : E) (es : Es) : evE b C (.mth f o es) env h = (evE b C o env h).bind fun w h => if recv f h w then (evEs b C es env h).bind fun ws h => evM f w ws h else .bad := by (simp only [evE]) <;> rfl
@[simp] theorem x_sset (x : E) : evE b C (.sset x) env h = (evE b C x env h).bind fun v h => match (toD h v).bind listInts with
    | some ns => if ns.length < 60 then .ok (.d (.list ((sortU ns).map .int))) h else .bad
    | none => .bad := by (simp only [evE]) <;> rfl
@[simp] theorem x_call (f : Nat) (es : Es) : evE b C (.call f es) env h = (evEs b C es env h).bind fun ws h => C b f ws h := by (simp only [evE]) <;> rfl
@[simp] theorem x_lc (k : Nat) (t : List Nat) (u : Bool) (it : It) (c : Oe) (e : E) : evE b C (.lc k t u it c e) env h = (evIt b C it env h).bind fun ws h => (noEx (lcGo (fun w h => kpt ws.2 h (match bindT t u w env with
      | some env => (evOe b C c env h).bind fun q h => match boolO q with
        | some true => (evE b C e env h).bind fun r h => .ok (some r) h
        | some false => .ok none h
        | none => .bad
      | none => .bad)) ws.1 h)).bind fun rs h => lcEnd k rs h := by (simp only [evE]) <;> rfl
@[simp] theorem x_lc2 (t : List Nat) (u : Bool) (it : It) (t1 : List Nat) (u1 : Bool) (it1 : It) (e : E) : evE b C (.lc2 t u it t1 u1 it1 e) env h = (evIt b C it env h).bind fun ws h => (noEx (lcGoL (fun w h => kpt ws.2 h (match bindT t u w (clrV t1 env) with
      | some env => (evIt b C it1 env h).bind fun vs h => lcGo (fun w h => kpt vs.2 h (match bindT t1 u1 w env with
        | some env => (evE b C e env h).bind fun r h => .ok (some r) h
        | none => .bad)) vs.1 h
      | none => .bad)) ws.1 h)).bind fun rs h => if rs.length ≤ SZ then lcEnd 0 rs h else .bad := by (simp only [evE]) <;> rfl
@[simp] theorem x_call0 (f : Nat) : evE b C (.call0 f) env h = C b f [] h := by (simp only [evE]) <;> rfl
@[simp] theorem x_fld (c : Nat) (a : E) (f : Str) : evE b C (.fld c a f) env h = (evE b C a env h).bind fun w h => evFld c f w h := by (simp only [evE]) <;> rfl
@[simp] theorem x_mcl (c f : Nat) (m : Str) (o : E) (es : Es) : evE b C (.mcl c f m o es) env h = (evE b C o env h).bind fun w h => if hasM c m w h then (evEs b C es env h).bind fun ws h => C b f (w :: ws) h else .bad := by (simp only [evE]) <;> rfl
@[simp] theorem x_mko (c f : Nat) (es : Es) : evE b C (.mko c f es) env h = (evEs b C es env h).bind fun ws h => (C b f (.l h.length :: ws) (h ++ [.obj c []])).bind fun v h' => match v with
    | .d .none => .ok (.l h.length) h'
    | _ => .bad := by (simp only [evE]) <;> rfl
@[simp] theorem x_pop0 (o : E) : evE b C (.pop0 o) env h = (evE b C o env h).bind fun w h => evPop w h := by (simp only [evE]) <;> rfl
@[simp] theorem s_fst (c : Nat) (o : E) (f : Str) (e : E) : evS b C (.fst c o f e) env h = (evE b C e env h).bind fun v h => (evE b C o env h).bind fun w h => (evFst b c f w v h).bind fun _ h => .ok (.nx env) h := by (simp only [evS]) <;> rfl
@[simp] theorem x_dnewI : evE b C .dnewI env h = .ok (.l h.length) (h ++ [.dki []]) := by (simp only [evE]) <;> rfl
@[simp] theorem x_dnew : evE b C .dnew env h = .ok (.l h.length) (h ++ [.dct []]) := by (simp only [evE]) <;> rfl
@[simp] theorem x_cmp2 (o p : CmpOp) (x y z : E) : evE b C (.cmp2 o p x y z) env h = (evE b C x env h).bind fun v h => (evE b C y env h).bind fun w h => (cmpW o v w h).bind fun k h => match k with
    | .d (.bool true) => (evE b C z env h).bind fun u h => cmpW p w u h
    | .d (.bool false) => .ok (.d (.bool false)) h
    | _ => .bad := by (simp only [evE]) <;> rfl
@[simp] theorem x_isN (x : E) : evE b C (.isN x) env h = (evE b C x env h).bind fun v h => match v with
    | .d .none => .ok (.d (.bool true)) h
    | _ => .ok (.d (.bool false)) h := by (simp only [evE]) <;> rfl
@[simp] theorem x_isB (n k : Bool) (x : E) : evE b C (.isB n k x) env h = (evE b C x env h).bind fun v h => match v with
    | .d (.bool j) => .ok (.d (.bool (xor n (j == k)))) h
    | _ => .bad := by (simp only [evE]) <;> rfl
@[simp] theorem x_notN (x : E) : evE b C (.notN x) env h = (evE b C x env h).bind fun v h => match v with
    | .d .none => .ok (.d (.bool false)) h
    | _ => .ok (.d (.bool true)) h := by (simp only [evE]) <;> rfl
@[simp] theorem x_lsw (es : Es) : evE b C (.lsw es) env h = (evEs b C es env h).bind fun ws h => .ok (.l h.length) (h ++ [.lsw ws]) := by (simp only [evE]) <;> rfl
@[simp] theorem s_expr (e : E) : evS b C (.expr e) env h = (evE b C e env h).bind fun _ h => .ok (.nx env) h := by (simp only [evS]) <;> rfl
@[simp] theorem kpt_n {α : Type} {h : Hq} {r : R α} : kpt none h r = r := nr rfl
@[simp] theorem kpt_s {α : Type} {n : Nat} {h : Hq} {a : α} : kpt (some n) h (.ok a h) = .ok a h := by simp [kpt, R.bind]
theorem kpt_o {α : Type} {n : Nat} {h h' : Hq} {a : α} (e : h'[n]? = h[n]?) : kpt (some n) h (.ok a h') = .ok a h' := by simp [kpt, R.bind, e]
@[simp] theorem x_nil : evEs b C .nil env h = .ok [] h := by simp only [evEs]
@[simp] theorem x_cons (e : E) (es : Es) : evEs b C (.cons e es) env h = (evE b C e env h).bind fun w h => (evEs b C es env h).bind fun ws h => .ok (w :: ws) h := by simp only [evEs]
@[simp] theorem x_none : evOe b C .none env h = .ok none h := by simp only [evOe]
@[simp] theorem x_some (e : E) : evOe b C (.some e) env h = (evE b C e env h).bind fun w h => .ok (some w) h := by simp only [evOe]
@[simp] theorem x_ite (a : E) : evIt b C (.e a) env h = (evE b C a env h).bind fun w h => match itemsOf h w with
    | some ws => .ok (ws, liveW w) h
    | none => .bad := by (simp only [evIt]) <;> rfl
@[simp] theorem x_rg1 (a : E) : evIt b C (.rg1 a) env h = (evE b C a env h).bind fun w h => match w with
    | .d (.int n) => if rgOk 0 n then .ok (rangeUp 0 n, none) h else .bad
    | _ => .bad := by (simp only [evIt]) <;> rfl
@[simp] theorem x_rg2 (a c : E) : evIt b C (.rg2 a c) env h = (evE b C a env h).bind fun w h => (evE b C c env h).bind fun v h => match w, v with
    | .d (.int n), .d (.int k) => if rgOk n k then .ok (rangeUp n k, none) h else .bad
    | _, _ => .bad := by (simp only [evIt]) <;> rfl
@[simp] theorem x_rgd (a c : E) : evIt b C (.rgd a c) env h = (evE b C a env h).bind fun w h => (evE b C c env h).bind fun v h => match w, v with
    | .d (.int n), .d (.int k) => if rgOk k n then .ok (rangeDn n k, none) h else .bad
    | _, _ => .bad := by (simp only [evIt]) <;> rfl
@[simp] theorem s_asg (t : List Nat) (u : Bool) (e : E) : evS b C (.asg t u e) env h = (evE b C e env h).bind fun w h => match bindT t u w env with
    | some env => .ok (.nx env) h
    | none => .bad := by (simp only [evS]) <;> rfl
@[simp] theorem s_set (o i e : E) : evS b C (.set o i e) env h = (evE b C e env h).bind fun v h => (evE b C o env h).bind fun w h => (evE b C i env h).bind fun k h => (evSet b w k v h).bind fun _ h => .ok (.nx env) h := by (simp only [evS]) <;> rfl
@[simp] theorem s_app (o e : E) : evS b C (.app o e) env h = (evE b C o env h).bind fun w h => if recvL h w then (evE b C e env h).bind fun v h => (evApp b w v h).bind fun _ h => .ok (.nx env) h else .bad := by (simp only [evS]) <;> rfl
@[simp] theorem s_ret (e : E) : evS b C (.ret e) env h = (evE b C e env h).bind fun w h => .ok (.rt w) h := by (simp only [evS]) <;> rfl
@[simp] theorem s_retN : evS b C .retN env h = .ok (.rt (.d .none)) h := by (simp only [evS]) <;> rfl
@[simp] theorem s_ifs (c : E) (x y : Ss) : evS b C (.ifs c x y) env h = (evE b C c env h).bind fun v h => match v with
    | .d (.bool true) => evSs b C x env h
    | .d (.bool false) => evSs b C y env h
    | _ => .bad := by (simp only [evS]) <;> rfl
theorem s_for (t : List Nat) (u : Bool) (it : It) (s : Ss) : evS b C (.forS t u it s) env h = (evIt b C it env h).bind fun ws h => forGo (fun w env h => kpt ws.2 h (match bindT t u w env with
    | some env => evSs b C s env h
    | none => .bad)) ws.1 env h := by (simp only [evS]) <;> rfl
@[simp] theorem s_whl (n : Nat) (c : E) (s : Ss) : evS b C (.whl n c s) env h = whlGo (fun env h => evE b C c env h) (fun env h => evSs b C s env h) n env h := by (simp only [evS]) <;> rfl
@[simp] theorem s_pass : evS b C .pass env h = .ok (.nx env) h := by (simp only [evS]) <;> rfl
@[simp] theorem s_brk : evS b C .brk env h = .ok (.bk env) h := by (simp only [evS]) <;> rfl
@[simp] theorem s_cnt : evS b C .cnt env h = .ok (.ct env) h := by (simp only [evS]) <;> rfl
@[simp] theorem s_frz (i : Nat) : evS b C (.frz i) env h = evFrz i env h := by (simp only [evS]) <;> rfl
@[simp] theorem s_nil : evSs b C .nil env h = .ok (.nx env) h := by (simp only [evSs]) <;> rfl
@[simp] theorem s_cons (s : S) (ss : Ss) : evSs b C (.cons s ss) env h = (evS b C s env h).bind fun q h => match q with
    | .nx env => evSs b C ss env h
    | q => .ok q h := by (simp only [evSs]) <;> rfl
end
/-- a def's body, its end -/
def finR (tr : Bool) (n : Nat) : R Fl → R W
  | .ok (.nx _) h' => fin tr n (.d .none) h'
  | .ok (.rt w) h' => fin tr n w h'
  | .ok _ _ => .bad
  | .ex c ds h' => .ex c ds (if tr then h'.take n else h')
  | .bad => .bad
theorem call_of {T : List FD} {n b f : Nat} {fd : FD} (ws : List W) (h : Hq) (e : T[f]? = some fd) (l : ws.length = fd.np) :
    callN T (n + 1) b f ws h = finR fd.tr h.length (evSs (if fd.tr then h.length else b) (callN T n) fd.body (ws.map some ++ List.replicate (fd.ns - fd.np) none) h) := by
  simp only [callN, e, runF, if_pos l]
  cases evSs (if fd.tr then h.length else b) (callN T n) fd.body (ws.map some ++ List.replicate (fd.ns - fd.np) none) h with
  | ok f h => cases f <;> rfl
  | ex _ _ _ => rfl
  | bad => rfl
@[simp] theorem finR_ex {tr : Bool} {n c : Nat} {ds : List PyData} {h : Hq} : finR tr n (.ex c ds h) = .ex c ds (if tr then h.take n else h) := nr rfl
@[simp] theorem finR_rt {tr : Bool} {n : Nat} {w : W} {h : Hq} : finR tr n (.ok (.rt w) h) = fin tr n w h := nr rfl
@[simp] theorem finR_nx {tr : Bool} {n : Nat} {w : Vars} {h : Hq} : finR tr n (.ok (.nx w) h) = fin tr n (.d .none) h := nr rfl
@[simp] theorem fin_f {n : Nat} {w : W} {h : Hq} : fin false n w h = .ok w h := nr rfl
@[simp] theorem fin_t {n : Nat} {x : PyData} {h : Hq} : fin true n (.d x) h = .ok (.d x) (h.take n) := nr rfl

/-- a loop that runs to its end -/
theorem forGo_ok {f : W → Vars → Hq → R Fl} (I : Nat → Vars → Hq → Prop) : ∀ (ws : List W) (k : Nat) (env : Vars) (h : Hq), I k env h → (∀ j w env h, ws[j]? = some w → I (k + j) env h → ∃ env' h', f w env h = .ok (.nx env') h' ∧ I (k + j + 1) env' h') →
    ∃ env' h', forGo f ws env h = .ok (.nx env') h' ∧ I (k + ws.length) env' h'
  | [], k, env, h, i, _ => ⟨env, h, rfl, i⟩
  | w :: ws, k, env, h, i, st => by
    obtain ⟨env1, h1, e1, i1⟩ := st 0 w env h rfl i
    obtain ⟨env2, h2, e2, i2⟩ := forGo_ok I ws (k + 1) env1 h1 (by simpa using i1) (fun j w env h e i => by
      have := st (j + 1) w env h (by simpa using e) (by rw [show k + (j + 1) = k + 1 + j by omega]; exact i)
      rw [show k + 1 + j + 1 = k + (j + 1) + 1 by omega]
      exact this)
    refine ⟨env2, h2, ?_, by rw [List.length_cons, show k + (ws.length + 1) = k + 1 + ws.length by omega]; exact i2⟩
    simp only [forGo, e1, b_ok, e2]
/-- the same, the place not asked -/
theorem forGo_inv {f : W → Vars → Hq → R Fl} (I : Vars → Hq → Prop) (ws : List W) (env : Vars) (h : Hq) (i : I env h) (st : ∀ w env h, w ∈ ws → I env h → ∃ env' h', f w env h = .ok (.nx env') h' ∧ I env' h') :
    ∃ env' h', forGo f ws env h = .ok (.nx env') h' ∧ I env' h' :=
  forGo_ok (fun _ => I) ws 0 env h i fun j w env h e i => st w env h (List.mem_of_getElem? e) i
/-- a comprehension whose turns leave the heap alone -/
theorem lcGo_pure {f : W → Hq → R (Option W)} {h : Hq} (g : W → Option W) : ∀ (ws : List W), (∀ w ∈ ws, f w h = .ok (g w) h) → lcGo f ws h = .ok (ws.filterMap g) h
  | [], _ => rfl
  | w :: ws, e => by
    simp only [lcGo, e w List.mem_cons_self, b_ok, lcGo_pure g ws fun w hw => e w (List.mem_cons_of_mem _ hw), List.filterMap_cons]
    cases g w <;> rfl
theorem rangeUp_at {lo hi : Int} {j : Nat} {w : W} (e : (rangeUp lo hi)[j]? = some w) : w = .d (.int (lo + j)) ∧ (j : Int) < hi - lo := by
  unfold rangeUp at e
  rw [List.getElem?_map] at e
  cases q : (List.range (hi - lo).toNat)[j]? with
  | none => rw [q] at e; cases e
  | some i =>
    rw [q] at e
    cases e
    obtain ⟨l, rfl⟩ := List.getElem?_eq_some_iff.mp q
    simp only [List.length_range] at l
    simp only [List.getElem_range, true_and]
    omega
theorem rangeUp_mem {lo hi : Int} {w : W} (e : w ∈ rangeUp lo hi) : ∃ i : Int, w = .d (.int i) ∧ lo ≤ i ∧ i < hi := by
  obtain ⟨j, e⟩ := List.getElem?_of_mem e
  obtain ⟨e1, e2⟩ := rangeUp_at e
  exact ⟨_, e1, by omega, by omega⟩
@[simp] theorem rangeUp_len {lo hi : Int} : (rangeUp lo hi).length = (hi - lo).toNat := by unfold rangeUp; simp
theorem rg_of {lo hi : Int} (h1 : -1000000 ≤ lo) (h2 : lo ≤ 1000000) (h3 : -1000000 ≤ hi) (h4 : hi ≤ 1000000) : rgOk lo hi = true := by
  unfold rgOk
  rw [decide_eq_true_eq]
  omega
@[simp] theorem last_at {t : Hq} {o : Ob} : (t ++ [o])[t.length]? = some o := by simp
@[simp] theorem last_set {t : Hq} {o o' : Ob} : (t ++ [o]).set t.length o' = t ++ [o'] := by simp
@[simp] theorem last_take {t : Hq} {o : Ob} : (t ++ [o]).take t.length = t := by simp
theorem whl_step {c : Vars → Hq → R W} {f : Vars → Hq → R Fl} {n : Nat} {env env' : Vars} {h h1 h' : Hq} (e1 : c env h = .ok (.d (.bool true)) h1) (e2 : f env h1 = .ok (.nx env') h') : whlGo c f (n + 1) env h = whlGo c f n env' h' := by simp only [whlGo, e1, b_ok, e2]
theorem whl_end {c : Vars → Hq → R W} {f : Vars → Hq → R Fl} {n : Nat} {env : Vars} {h h1 : Hq} (e1 : c env h = .ok (.d (.bool false)) h1) : whlGo c f (n + 1) env h = .ok (.nx env) h1 := by simp only [whlGo, e1, b_ok]
theorem whl_ret {c : Vars → Hq → R W} {f : Vars → Hq → R Fl} {n : Nat} {env : Vars} {w : W} {h h1 h' : Hq} (e1 : c env h = .ok (.d (.bool true)) h1) (e2 : f env h1 = .ok (.rt w) h') : whlGo c f (n + 1) env h = .ok (.rt w) h' := by simp only [whlGo, e1, b_ok, e2]
/-! objects -/
section
variable {h : Hq} {n c b : Nat} {f m : Str} {fs : List (Str × W)} {w : W} {x : PyData} {xs : List PyData}
theorem objOf_o (e : h[n]? = some (.obj c fs)) : objOf h c (.l n) = some (n, fs) := by simp only [objOf, e, if_true]
theorem fld_o (e : h[n]? = some (.obj c fs)) (g : fs.lookup f = some w) : evFld c f (.l n) h = .ok w h := by simp only [evFld, objOf_o e, g]
theorem hasM_o (e : h[n]? = some (.obj c fs)) (g : fs.lookup m = none) : hasM c m (.l n) h = true := by
  simp only [hasM, objOf_o e, g]
  rfl
theorem fst_d (e : h[n]? = some (.obj c fs)) (l : fs.length < 900) : evFst b c f (.l n) (.d x) h = .ok () (h.set n (.obj c (putW f (.d x) fs))) := by simp only [evFst, objOf_o e, if_pos l]
theorem fst_l {k : Nat} (e : h[n]? = some (.obj c fs)) (l : fs.length < 900) (hb : b ≤ n) : evFst b c f (.l n) (.l k) h = .ok () (h.set n (.obj c (putW f (.l k) fs))) := by simp only [evFst, objOf_o e, if_pos l, if_pos hb]
theorem pop_o (e : h[n]? = some (.lst xs)) (g : xs[xs.length - 1]? = some x) : evPop (.l n) h = .ok (.d x) (h.set n (.lst xs.dropLast)) := by simp only [evPop, e, g]
end
end Ev

/-! EvP2: lemmas on values, to run the terms by simp. -/
namespace Ev
open PySem

section
variable {h : Hq} {i j : Int} {x y : PyData} {xs ys : List PyData} {n : Nat} {w : W} {ws : List W}
@[simp] theorem op2_d {f : PyData → PyData → Option PyData} : op2 f (.d x) (.d y) h = liftO (f x y) h := nr rfl
theorem opM_d {f : PyData → PyData → Option PyData} (e : f x y = some (.list xs)) : opM f (.d x) (.d y) h = .ok (.l h.length) (h ++ [.lst xs]) := by simp only [opM, toD, e]
theorem opM_l {f : PyData → PyData → Option PyData} {ys : List PyData} (e1 : h[n]? = some (.lst ys)) (e : f (.list ys) y = some (.list xs)) : opM f (.l n) (.d y) h = .ok (.l h.length) (h ++ [.lst xs]) := by simp only [opM, toD, e1, e]
@[simp] theorem liftO_s : liftO (some x) h = .ok (.d x) h := nr rfl
@[simp] theorem toD_d : toD h (.d x) = some x := nr rfl
@[simp] theorem toDD_d : toDD h (.d x) = some x := nr rfl
theorem toDD_l (e : h[n]? = some (.lst xs)) : toDD h (.l n) = some (.list xs) := by simp only [toDD, toDn, e]
@[simp] theorem dctOf_d : dctOf h (.d x) = none := nr rfl
theorem dctOf_l (e : h[n]? = some (.lst xs)) : dctOf h (.l n) = none := by simp only [dctOf, e]
theorem dctOf_w (e : h[n]? = some (.lsw ws)) : dctOf h (.l n) = none := by simp only [dctOf, e]
theorem dctOf_k {kvs : List (PyData × PyData)} (e : h[n]? = some (.dct kvs)) : dctOf h (.l n) = some kvs := by simp only [dctOf, e]
@[simp] theorem cmp_d {o : CmpOp} : cmpW o (.d x) (.d y) h = liftO (evCmp o x y) h := by simp only [cmpW, dctOf_d, toDD_d]
theorem cmp_dl {o : CmpOp} (e : h[n]? = some (.lst xs)) : cmpW o (.d x) (.l n) h = liftO (evCmp o x (.list xs)) h := by simp only [cmpW, dctOf_l e, toDD_d, toDD_l e]
theorem cmp_ld {o : CmpOp} (e : h[n]? = some (.lst xs)) : cmpW o (.l n) (.d y) h = liftO (evCmp o (.list xs) y) h := by simp only [cmpW, dctOf_d, toDD_d, toDD_l e]
theorem cmp_in {kvs : List (PyData × PyData)} (e : h[n]? = some (.dct kvs)) (k : isKey x = true) : cmpW .In (.d x) (.l n) h = .ok (.d (.bool (dget kvs x).isSome)) h := by simp only [cmpW, dctOf_k e, k, if_true]
theorem cmp_nin {kvs : List (PyData × PyData)} (e : h[n]? = some (.dct kvs)) (k : isKey x = true) : cmpW .NotIn (.d x) (.l n) h = .ok (.d (.bool (!(dget kvs x).isSome))) h := by simp only [cmpW, dctOf_k e, k, if_true]
theorem dct_at {kvs : List (PyData × PyData)} (e : h[n]? = some (.dct kvs)) (k : isKey x = true) (g : dget kvs x = some y) : evIdx h (.l n) (.d x) = .ok (.d y) h := by
  cases x <;> simp only [isKey, Bool.false_eq_true] at k
  simp only [evIdx, e, isKey, k, if_true, g]
  rfl
theorem dct_set {kvs : List (PyData × PyData)} {b : Nat} (e : h[n]? = some (.dct kvs)) (k : isKey x = true) (l : kvs.length < 1000000) : evSet b (.l n) (.d x) (.d y) h = .ok () (h.set n (.dct (dput kvs x y))) := by
  cases x <;> simp only [isKey, Bool.false_eq_true] at k
  have l' : decide (kvs.length < 1000000) = true := decide_eq_true l
  simp only [evSet, e, isKey, k, l', Bool.true_and, if_true]
theorem dct_get {kvs : List (PyData × PyData)} (e : h[n]? = some (.dct kvs)) (k : isKey x = true) : evM .get (.l n) [.d x, .d y] h = .ok (.d ((dget kvs x).getD y)) h := by
  simp only [evM, dctOf_k e, k, if_true]
  cases dget kvs x <;> rfl
theorem dctOf_i {kvs : List (Int × PyData)} (e : h[n]? = some (.dki kvs)) : dctOf h (.l n) = none := by simp only [dctOf, e]
theorem dki_in {kvs : List (Int × PyData)} {i : Int} (e : h[n]? = some (.dki kvs)) : cmpW .In (.d (.int i)) (.l n) h = .ok (.d (.bool (iget kvs i).isSome)) h := by simp only [cmpW, dctOf_i e, toDD_d, toDD, toDn, e, cmpI, dkiOf]
theorem dki_nin {kvs : List (Int × PyData)} {i : Int} (e : h[n]? = some (.dki kvs)) : cmpW .NotIn (.d (.int i)) (.l n) h = .ok (.d (.bool (!(iget kvs i).isSome))) h := by simp only [cmpW, dctOf_i e, toDD_d, toDD, toDn, e, cmpI, dkiOf]
theorem dki_at {kvs : List (Int × PyData)} {i : Int} (e : h[n]? = some (.dki kvs)) (g : iget kvs i = some y) : evIdx h (.l n) (.d (.int i)) = .ok (.d y) h := by
  simp only [evIdx, e, g]
  rfl
theorem dki_set {kvs : List (Int × PyData)} {i : Int} {b : Nat} (e : h[n]? = some (.dki kvs)) (l : kvs.length < 1000000) : evSet b (.l n) (.d (.int i)) (.d y) h = .ok () (h.set n (.dki (iput kvs i y))) := by
  simp only [evSet, e, l, if_true]
theorem toD_l (e : h[n]? = some (.lst xs)) : toD h (.l n) = some (.list xs) := by simp only [toD, e]
theorem op2_dl {f : PyData → PyData → Option PyData} (e : h[n]? = some (.lst xs)) : op2 f (.d x) (.l n) h = liftO (f x (.list xs)) h := by unfold op2; rw [toD_l e]; rfl
@[simp] theorem add_i : evBin .Add (.int i) (.int j) = some (.int (i + j)) := nr rfl
@[simp] theorem sub_i : evBin .Sub (.int i) (.int j) = some (.int (i - j)) := nr rfl
theorem mul_i (e : sOk i j = true) : evBin .Mult (.int i) (.int j) = some (.int (i * j)) := by simp only [evBin, e, if_true]
theorem sOk_r (h1 : -1000000000000 ≤ j) (h2 : j ≤ 1000000000000) : sOk i j = true := by unfold sOk; rw [decide_eq_true_eq]; omega
theorem sOk_l (h1 : -1000000000000 ≤ i) (h2 : i ≤ 1000000000000) : sOk i j = true := by unfold sOk; rw [decide_eq_true_eq]; omega
theorem div_i (e : divOk j = true) : evBin .FloorDiv (.int i) (.int j) = some (.int (i.fdiv j)) := by simp only [evBin, e, if_true]
theorem divOk_of (h1 : 0 < j) (h2 : j ≤ 1000000) : divOk j = true := by unfold divOk; rw [decide_eq_true_eq]; omega
theorem mod_i (e : j ≠ 0) : evBin .Mod (.int i) (.int j) = some (.int (i.fmod j)) := by simp only [evBin]; rw [if_pos e]
@[simp] theorem div_k (h1 : 0 < j) (h2 : j ≤ 1000000) : evBin .FloorDiv (.int i) (.int j) = some (.int (i.fdiv j)) := div_i (divOk_of h1 h2)
@[simp] theorem mod_k (h1 : 0 < j) : evBin .Mod (.int i) (.int j) = some (.int (i.fmod j)) := mod_i (Int.ne_of_gt h1)
theorem mul_s {x : Str} {k : Int} (e : repOk x.length k = true) : evBin .Mult (.str x) (.int k) = some (.str (repS x k)) := by simp only [evBin, e, if_true]
@[simp] theorem mul_r (h1 : -1000000000000 ≤ j) (h2 : j ≤ 1000000000000) : evBin .Mult (.int i) (.int j) = some (.int (i * j)) := mul_i (sOk_r h1 h2)
@[simp] theorem mul_l (h1 : -1000000000000 ≤ i) (h2 : i ≤ 1000000000000) : evBin .Mult (.int i) (.int j) = some (.int (i * j)) := mul_i (sOk_l h1 h2)
@[simp] theorem pow_18 : evBin .Pow (.int 10) (.int 18) = some (.int 1000000000000000000) := nr rfl
@[simp] theorem lt_i : evCmp .Lt (.int i) (.int j) = some (.bool (decide (i < j))) := nr rfl
@[simp] theorem le_i : evCmp .LtE (.int i) (.int j) = some (.bool (decide (i ≤ j))) := nr rfl
@[simp] theorem gt_i : evCmp .Gt (.int i) (.int j) = some (.bool (decide (j < i))) := nr rfl
@[simp] theorem ge_i : evCmp .GtE (.int i) (.int j) = some (.bool (decide (j ≤ i))) := nr rfl
@[simp] theorem dpt_i : dpt (.int i) = true := nr rfl
@[simp] theorem dpt_b {k : Bool} : dpt (.bool k) = true := nr rfl
@[simp] theorem dpt_n : dpt .none = true := nr rfl
@[simp] theorem dpt_s {s : Str} : dpt (.str s) = true := nr rfl
@[simp] theorem eq_d (e : (dpt x || dpt y) = true) : evCmp .Eq x y = some (.bool (PyData.eqv x y)) := by simp only [evCmp, e, if_true]
@[simp] theorem ne_d (e : (dpt x || dpt y) = true) : evCmp .NotEq x y = some (.bool (!PyData.eqv x y)) := by simp only [evCmp, e, if_true]
@[simp] theorem eqv_i : PyData.eqv (.int i) (.int j) = decide (i = j) := by simp only [PyData.eqv]; exact rfl
@[simp] theorem eqv_s {s t : Str} : PyData.eqv (.str s) (.str t) = decide (s = t) := by simp only [PyData.eqv]; exact rfl
@[simp] theorem in_l (e : dpt x = true) : evCmp .In x (.list ys) = some (.bool (ys.any fun y => PyData.eqv y x)) := by simp only [evCmp, e, if_true]
@[simp] theorem in_t (e : dpt x = true) : evCmp .In x (.tuple ys) = some (.bool (ys.any fun y => PyData.eqv y x)) := by simp only [evCmp, e, if_true]
@[simp] theorem nin_l (e : dpt x = true) : evCmp .NotIn x (.list ys) = some (.bool (!ys.any fun y => PyData.eqv y x)) := by simp only [evCmp, e, if_true]
@[simp] theorem nin_t (e : dpt x = true) : evCmp .NotIn x (.tuple ys) = some (.bool (!ys.any fun y => PyData.eqv y x)) := by simp only [evCmp, e, if_true]
theorem atZ_nat {α : Type} {l : List α} {k : Nat} : atZ l (k : Int) = l[k]? := by
  unfold atZ L2.atI L2.ixN
  by_cases hk : k < l.length
  · rw [if_pos (by omega), if_pos (by omega)]; simp
  · rw [if_pos (by omega), if_neg (by omega), List.getElem?_eq_none (by omega)]; rfl
theorem atZ_int {α : Type} {l : List α} {k : Int} (e : 0 ≤ k) : atZ l k = l[k.toNat]? := by
  obtain ⟨m, rfl⟩ := Int.eq_ofNat_of_zero_le e
  exact atZ_nat
@[simp] theorem atZ_0 {α : Type} {l : List α} : atZ l 0 = l[0]? := atZ_nat (k := 0)
@[simp] theorem atZ_1 {α : Type} {l : List α} : atZ l 1 = l[1]? := atZ_nat (k := 1)
@[simp] theorem atZ_2 {α : Type} {l : List α} : atZ l 2 = l[2]? := atZ_nat (k := 2)
@[simp] theorem atZ_3 {α : Type} {l : List α} : atZ l 3 = l[3]? := atZ_nat (k := 3)
@[simp] theorem idx_l : evIdx h (.d (.list xs)) (.d (.int i)) = liftO (atZ xs i) h := nr rfl
@[simp] theorem idx_t : evIdx h (.d (.tuple xs)) (.d (.int i)) = liftO (atZ xs i) h := nr rfl
theorem idx_o (e : h[n]? = some (.lst xs)) : evIdx h (.l n) (.d (.int i)) = liftO (atZ xs i) h := by simp only [evIdx, e]
@[simp] theorem idx_o0 {t : Hq} : evIdx (.lst xs :: t) (.l 0) (.d (.int i)) = liftO (atZ xs i) (.lst xs :: t) := idx_o rfl
theorem set_o (e : h[n]? = some (.lst xs)) {k : Nat} (ek : L2.ixN xs.length i = some k) {b : Nat} : evSet b (.l n) (.d (.int i)) (.d x) h = .ok () (h.set n (.lst (xs.set k x))) := by simp only [evSet, e, ek]
@[simp] theorem set_b {t : Hq} {b : Nat} : evSet b (.l 0) (.d (.int 1)) (.d x) (.lst [y, w'] :: t) = .ok () (.lst [y, x] :: t) := nr rfl
@[simp] theorem len_l : evB .len [.d (.list xs)] h = .ok (.d (.int xs.length)) h := nr rfl
@[simp] theorem len_t : evB .len [.d (.tuple xs)] h = .ok (.d (.int xs.length)) h := nr rfl
theorem len_o (e : h[n]? = some (.lst xs)) : evB .len [.l n] h = .ok (.d (.int xs.length)) h := by simp only [evB, evLen, e]
@[simp] theorem int_i : evB .int [.d (.int i)] h = .ok (.d (.int i)) h := nr rfl
@[simp] theorem int_b {k : Bool} : evB .int [.d (.bool k)] h = .ok (.d (.int (if k then 1 else 0))) h := nr rfl
@[simp] theorem tup_l : evB .tuple [.d (.list xs)] h = .ok (.d (.tuple xs)) h := nr rfl
@[simp] theorem tup_t : evB .tuple [.d (.tuple xs)] h = .ok (.d (.tuple xs)) h := nr rfl
theorem tup_o (e : h[n]? = some (.lst xs)) : evB .tuple [.l n] h = .ok (.d (.tuple xs)) h := by simp only [evB, toD, e]; rfl
theorem app_o {b : Nat} (e : h[n]? = some (.lst xs)) (hl : xs.length < 1000000) : evApp b (.l n) (.d x) h = .ok () (h.set n (.lst (xs ++ [x]))) := by
  simp only [evApp, e]
  rw [if_pos (by unfold SZ; omega)]
theorem recvL_o (e : h[n]? = some (.lst xs)) : recvL h (.l n) = true := by simp only [recvL, e]
@[simp] theorem it_l : itemsOf h (.d (.list xs)) = some (xs.map .d) := nr rfl
theorem it_o (e : h[n]? = some (.lst xs)) : itemsOf h (.l n) = some (xs.map .d) := by simp only [itemsOf, e]
theorem it_w (e : h[n]? = some (.lsw ws)) : itemsOf h (.l n) = some ws := by simp only [itemsOf, e]
@[simp] theorem live_d : liveW (.d x) = none := nr rfl
@[simp] theorem live_l : liveW (.l n) = some n := nr rfl
@[simp] theorem it_t : itemsOf h (.d (.tuple xs)) = some (xs.map .d) := nr rfl
@[simp] theorem bind_1 {k : Nat} {env : Vars} : bindT [k] false w env = some (env.set k (some w)) := nr rfl
@[simp] theorem allD_0 : allD [] = some [] := nr rfl
@[simp] theorem allD_c : allD (.d x :: ws) = (allD ws).map (x :: ·) := nr rfl
theorem allD_map : allD (xs.map .d) = some xs := by
  induction xs with
  | nil => rfl
  | cons x xs ih => simp only [List.map_cons, allD, ih]; rfl
@[simp] theorem c_at {o o' : Ob} {t : Hq} : (o :: (t ++ [o']))[t.length + 1]? = some o' := by simp
@[simp] theorem noEx_ok {α : Type} {a : α} : noEx (.ok a h) = .ok a h := nr rfl
theorem allD_mapf {α : Type} {g : α → PyData} : ∀ l : List α, allD (l.map fun x => W.d (g x)) = some (l.map g)
  | [] => rfl
  | x :: l => by simp only [List.map_cons, allD, allD_mapf l]; rfl
theorem allD_comp {α : Type} {g : α → PyData} (l : List α) : allD (l.map (W.d ∘ g)) = some (l.map g) := allD_mapf l
theorem lcEnd_0 {ds : List PyData} (e : allD ws = some ds) : lcEnd 0 ws h = .ok (.d (.list ds)) h := by simp only [lcEnd, e]
@[simp] theorem lcEnd_m {α : Type} {g : α → PyData} {l : List α} : lcEnd 0 (l.map fun x => W.d (g x)) h = .ok (.d (.list (l.map g))) h := lcEnd_0 (allD_mapf l)
@[simp] theorem lcEnd_c {α : Type} {g : α → PyData} {l : List α} : lcEnd 0 (l.map (W.d ∘ g)) h = .ok (.d (.list (l.map g))) h := lcEnd_0 (allD_mapf l)
@[simp] theorem boolO_n : boolO none = some true := nr rfl
@[simp] theorem boolO_b {k : Bool} : boolO (some (.d (.bool k))) = some k := nr rfl
/-- a comprehension that filters -/
theorem lc_filter {α : Type} {f : W → Hq → R (Option W)} {emb : α → W} {g : α → W} {p : α → Bool} : ∀ (l : List α), (∀ x ∈ l, f (emb x) h = .ok (if p x then some (g x) else none) h) → lcGo f (l.map emb) h = .ok ((l.filter p).map g) h
  | [], _ => rfl
  | x :: l, e => by
    simp only [List.map_cons, lcGo, e x List.mem_cons_self, b_ok, lc_filter l fun y hy => e y (List.mem_cons_of_mem _ hy), List.filter_cons]
    cases p x <;> rfl
/-- a comprehension that maps -/
theorem lc_map {α : Type} {f : W → Hq → R (Option W)} {emb : α → W} {g : α → W} : ∀ (l : List α), (∀ x ∈ l, f (emb x) h = .ok (some (g x)) h) → lcGo f (l.map emb) h = .ok (l.map g) h
  | [], _ => rfl
  | x :: l, e => by
    simp only [List.map_cons, lcGo, e x List.mem_cons_self, b_ok, lc_map l fun y hy => e y (List.mem_cons_of_mem _ hy)]
@[simp] theorem any_int {l : List Int} : ((l.map PyData.int).any fun y => PyData.eqv y (.int i)) = decide (i ∈ l) := by
  rw [Bool.eq_iff_iff]
  simp
@[simp] theorem any_str {l : List Str} {s : Str} : ((l.map PyData.str).any fun y => PyData.eqv y (.str s)) = decide (s ∈ l) := by
  rw [Bool.eq_iff_iff]
  simp
@[simp] theorem any_int' {l : List Int} : (l.any ((fun y => PyData.eqv y (.int i)) ∘ PyData.int)) = decide (i ∈ l) := by
  rw [Bool.eq_iff_iff]
  simp
@[simp] theorem any_str' {l : List Str} {s : Str} : (l.any ((fun y => PyData.eqv y (.str s)) ∘ PyData.str)) = decide (s ∈ l) := by
  rw [Bool.eq_iff_iff]
  simp
theorem cutL_map {α β : Type} {f : α → β} {l : List α} {lo hi : Option Int} : cutL (l.map f) lo hi = (cutL l lo hi).map f := by simp [cutL]
theorem cutL_sub {α : Type} {l : List α} {lo hi : Option Int} : (cutL l lo hi).Sublist l := (List.take_sublist _ _).trans (List.drop_sublist _ _)
@[simp] theorem slc_l {lo hi : Option Int} : evSlc h (.d (.list xs)) lo hi = .ok (.d (.list (cutL xs lo hi))) h := nr rfl
@[simp] theorem rev_l : evRev h (.d (.list xs)) = .ok (.d (.list xs.reverse)) h := nr rfl
@[simp] theorem rev_t : evRev h (.d (.tuple xs)) = .ok (.d (.tuple xs.reverse)) h := nr rfl
@[simp] theorem slc_t {lo hi : Option Int} : evSlc h (.d (.tuple xs)) lo hi = .ok (.d (.tuple (cutL xs lo hi))) h := nr rfl
@[simp] theorem intO_n : intO none = some none := nr rfl
@[simp] theorem intO_i : intO (some (.d (.int i))) = some (some i) := nr rfl
theorem intsOf_map : ∀ l : List Int, intsOf (l.map .int) = some l
  | [] => rfl
  | x :: l => by simp only [List.map_cons, intsOf, intsOf_map l]; rfl
@[simp] theorem add_l (e : xs.length + ys.length ≤ 1000000) : evBin .Add (.list xs) (.list ys) = some (.list (xs ++ ys)) := by simp only [evBin]; rw [if_pos (by unfold SZ; omega)]
@[simp] theorem add_t (e : xs.length + ys.length ≤ 1000000) : evBin .Add (.tuple xs) (.tuple ys) = some (.tuple (xs ++ ys)) := by simp only [evBin]; rw [if_pos (by unfold SZ; omega)]
@[simp] theorem add_s {s t : Str} (e : s.length + t.length ≤ 1000000) : evBin .Add (.str s) (.str t) = some (.str (s ++ t)) := by simp only [evBin]; rw [if_pos (by unfold SZ; omega)]
@[simp] theorem sumInts_l : sumInts (.list xs) = listInts (.list xs) := nr rfl
@[simp] theorem sumInts_t : sumInts (.tuple xs) = listInts (.list xs) := nr rfl
@[simp] theorem listInts_m {l : List Int} : listInts (.list (l.map .int)) = some l := intsOf_map l
theorem sortP_i {l : List Int} : sortP (l.map .int) = some ((sortI l).map .int) := by simp only [sortP, intsOf_map]
theorem maxP_i {l : List Int} : maxP (l.map .int) = (maxI l).map .int := by simp only [maxP, intsOf_map]
theorem minP_i {l : List Int} : minP (l.map .int) = (minI l).map .int := by simp only [minP, intsOf_map]
theorem sorted_o {l : List Int} (e : h[n]? = some (.lst (l.map .int))) : evB .sorted [.l n] h = .ok (.d (.list ((sortI l).map .int))) h := by
  simp only [evB, evSort, dctOf_l e, toD_l e, Option.bind_some, seqOf, sortP_i, Option.map_some, liftO_s]
@[simp] theorem sorted_d {l : List Int} : evB .sorted [.d (.list (l.map .int))] h = .ok (.d (.list ((sortI l).map .int))) h := by
  simp only [evB, evSort, dctOf_d, toD_d, Option.bind_some, seqOf, sortP_i, Option.map_some, liftO_s]
@[simp] theorem sorted_t {l : List Int} : evB .sorted [.d (.tuple (l.map .int))] h = .ok (.d (.list ((sortI l).map .int))) h := by
  simp only [evB, evSort, dctOf_d, toD_d, Option.bind_some, seqOf, sortP_i, Option.map_some, liftO_s]
theorem max_d {l : List Int} {m : Int} (e : maxI l = some m) : evB .max [.d (.list (l.map .int))] h = .ok (.d (.int m)) h := by
  simp only [evB, toD_d, Option.bind_some, seqOf, maxP_i, e, Option.map_some, liftO_s]
theorem max_t {l : List Int} {m : Int} (e : maxI l = some m) : evB .max [.d (.tuple (l.map .int))] h = .ok (.d (.int m)) h := by
  simp only [evB, toD_d, Option.bind_some, seqOf, maxP_i, e, Option.map_some, liftO_s]
theorem min_d {l : List Int} {m : Int} (e : minI l = some m) : evB .min [.d (.list (l.map .int))] h = .ok (.d (.int m)) h := by
  simp only [evB, toD_d, Option.bind_some, seqOf, minP_i, e, Option.map_some, liftO_s]
@[simp] theorem mem_sortI {l : List Int} : i ∈ sortI l ↔ i ∈ l := by simp [sortI]
theorem rangeDn_at {lo hi : Int} {j : Nat} {w : W} (e : (rangeDn hi lo)[j]? = some w) : w = .d (.int (hi - j)) ∧ (j : Int) < hi - lo := by
  unfold rangeDn at e
  rw [List.getElem?_map] at e
  cases q : (List.range (hi - lo).toNat)[j]? with
  | none => rw [q] at e; cases e
  | some i =>
    rw [q] at e
    cases e
    obtain ⟨l, rfl⟩ := List.getElem?_eq_some_iff.mp q
    simp only [List.length_range] at l
    simp only [List.getElem_range, true_and]
    omega
@[simp] theorem rangeDn_len {lo hi : Int} : (rangeDn hi lo).length = (hi - lo).toNat := by unfold rangeDn; simp
theorem eqvAll_ints : ∀ {l l' : List Int}, PyData.eqvAll (l.map .int) (l'.map .int) = decide (l = l')
  | [], [] => by simp [PyData.eqvAll]
  | [], _ :: _ => by simp [PyData.eqvAll]
  | _ :: _, [] => by simp [PyData.eqvAll]
  | x :: l, y :: l' => by
    simp only [List.map_cons, PyData.eqvAll, eqv_i, eqvAll_ints]
    by_cases h : x = y <;> simp [h]
@[simp] theorem eqv_ti {l l' : List Int} : PyData.eqv (.tuple (l.map .int)) (.tuple (l'.map .int)) = decide (l = l') := by simp only [PyData.eqv, eqvAll_ints]
@[simp] theorem eqv_li {l l' : List Int} : PyData.eqv (.list (l.map .int)) (.list (l'.map .int)) = decide (l = l') := by simp only [PyData.eqv, eqvAll_ints]
theorem depthAll_ints : ∀ {l : List Int}, PyData.depthAll (l.map .int) ≤ 1
  | [] => by simp [PyData.depthAll]
  | x :: l => by
    have := depthAll_ints (l := l)
    simp only [List.map_cons, PyData.depthAll, PyData.depth]
    omega
@[simp] theorem dpt_ti {l : List Int} : dpt (.tuple (l.map .int)) = true := by
  unfold dpt
  have := depthAll_ints (l := l)
  refine decide_eq_true ?_
  simp only [PyData.depth]
  omega
@[simp] theorem dpt_li {l : List Int} : dpt (.list (l.map .int)) = true := by
  unfold dpt
  have := depthAll_ints (l := l)
  refine decide_eq_true ?_
  simp only [PyData.depth]
  omega
@[simp] theorem dpt_l0 : dpt (.list []) = true := dpt_li (l := [])
@[simp] theorem eqv_l0 {l : List PyData} : PyData.eqv (.list l) (.list []) = l.isEmpty := by cases l <;> simp [PyData.eqv, PyData.eqvAll]
@[simp] theorem listInts_f {α : Type} {l : List α} {f : α → Int} : listInts (.list (l.map fun a => .int (f a))) = some (l.map f) := by
  have := intsOf_map (l.map f)
  rw [List.map_map] at this
  exact this
theorem cut_take {α : Type} {l : List α} {k : Nat} : cutL l none (some (k : Int)) = l.take k := by
  unfold cutL
  rw [HT.sIx_none, HT.sIx_nat]
  simp
/-- a loop that may return v -/
theorem forGo_all {f : W → Vars → Hq → R Fl} (I : Vars → Prop) (p : W → Bool) (v : W) : ∀ (ws : List W) (env : Vars), I env →
    (∀ w env, w ∈ ws → I env → (p w = true → ∃ env', f w env h = .ok (.nx env') h ∧ I env') ∧ (p w = false → f w env h = .ok (.rt v) h)) →
    (ws.all p = true → ∃ env', forGo f ws env h = .ok (.nx env') h ∧ I env') ∧ (ws.all p = false → forGo f ws env h = .ok (.rt v) h)
  | [], env, i, _ => ⟨fun _ => ⟨env, rfl, i⟩, fun z => by simp at z⟩
  | w :: ws, env, i, st => by
    obtain ⟨s1, s2⟩ := st w env List.mem_cons_self i
    cases e : p w with
    | false =>
      refine ⟨fun z => by simp [e] at z, fun _ => ?_⟩
      simp only [forGo, s2 e, b_ok]
    | true =>
      obtain ⟨env', e1, i1⟩ := s1 e
      obtain ⟨t1, t2⟩ := forGo_all I p v ws env' i1 fun w env hw => st w env (List.mem_cons_of_mem _ hw)
      simp only [List.all_cons, e, Bool.true_and]
      refine ⟨fun z => ?_, fun z => ?_⟩
      · obtain ⟨env2, e2, i2⟩ := t1 z
        exact ⟨env2, by simp only [forGo, e1, b_ok, e2], i2⟩
      · simp only [forGo, e1, b_ok, t2 z]
end
end Ev

/-! EvP3: how long a shown thing is; keys; more to run the terms by simp. -/
namespace Ev
open PySem

/-- shown with at most k signs, at most j deep -/
structure Sm (k j : Nat) (d : PyData) : Prop where
  sh : d.showable = true
  dp : d.depth ≤ j
  len : d.shown.length ≤ k
theorem Sm.mono {k j k' j' : Nat} {d : PyData} (s : Sm k j d) (h : k ≤ k') (h' : j ≤ j') : Sm k' j' d := ⟨s.sh, Nat.le_trans s.dp h', Nat.le_trans s.len h⟩
theorem sm_none : Sm 41 0 .none := ⟨rfl, by simp [PyData.depth], by decide +kernel⟩
theorem sm_bool {b : Bool} : Sm 41 0 (.bool b) := ⟨rfl, by simp [PyData.depth], by cases b <;> decide +kernel⟩
theorem sm_int {i : Int} (h : i.natAbs < 10 ^ 40) : Sm 41 0 (.int i) := by
  refine ⟨?_, by simp [PyData.depth], ?_⟩
  · simp only [PyData.showable, decide_eq_true_eq]
    by_cases e : i.natAbs = 0
    · rw [e]; decide
    · refine (Nat.log2_lt e).mpr (Nat.lt_trans h (by decide +kernel))
  · show (Str.ofString (toString i)).length ≤ 41
    rw [ofString_length]
    exact int_text_length_le10 (by decide) h
theorem sm_str {s : Str} (h : ∀ c ∈ s.cps.toList, c < 16 ^ 8) : Sm (10 * s.length + 2) 0 (.str s) := ⟨rfl, by simp [PyData.depth], by
  have := StrLaws.reprText_len s h
  simp only [PyData.shown]
  omega⟩
theorem join_len (ts : List Str) : (Str.join ", " ts).length ≤ piled ts := by
  by_cases h : ts = []
  · subst h; decide +kernel
  · have := join_length_add ts h
    omega
theorem textFrom_le : ∀ (ts : List Str) (k : Nat) (acc : Str), (textFrom k acc ts).length ≤ acc.length + piled ts
  | [], k, acc => by show acc.length ≤ acc.length + 0; omega
  | t :: r, k, acc => by
    have ih := textFrom_le r (k + 1) (acc ++ (if k > 0 then ", " else "" : String) ++ t)
    have e : (acc ++ (if k > 0 then ", " else "" : String) ++ t).length ≤ acc.length + 2 + t.length := by
      rw [strLen_append, strLen_append]
      split
      · have : ((", " : String) : Str).length = 2 := rfl
        omega
      · have : (("" : String) : Str).length = 0 := rfl
        omega
    rw [piled_cons]
    show (textFrom (k + 1) _ r).length ≤ _
    omega
theorem piled_le {k : Nat} : ∀ {ds : List PyData}, (∀ d ∈ ds, d.shown.length ≤ k) → piled (PyData.shownAll ds) ≤ ds.length * (k + 2)
  | [], _ => by simp [PyData.shownAll, piled]
  | d :: ds, h => by
    have h1 := h d List.mem_cons_self
    have h2 := piled_le (ds := ds) fun x hx => h x (List.mem_cons_of_mem _ hx)
    simp only [PyData.shownAll, piled_cons, List.length_cons, Nat.add_mul]
    omega
theorem showableAll_of : ∀ {ds : List PyData}, (∀ d ∈ ds, d.showable = true) → PyData.showableAll ds = true
  | [], _ => rfl
  | d :: ds, h => by simp only [PyData.showableAll, h d List.mem_cons_self, showableAll_of fun x hx => h x (List.mem_cons_of_mem _ hx), Bool.and_self]
theorem depthAll_of {j : Nat} : ∀ {ds : List PyData}, (∀ d ∈ ds, d.depth ≤ j) → PyData.depthAll ds ≤ j
  | [], _ => by simp [PyData.depthAll]
  | d :: ds, h => by
    have h1 := h d List.mem_cons_self
    have h2 := depthAll_of (ds := ds) fun x hx => h x (List.mem_cons_of_mem _ hx)
    simp only [PyData.depthAll]
    omega
theorem sm_tup {k j : Nat} {ds : List PyData} (h : ∀ d ∈ ds, Sm k j d) : Sm (ds.length * (k + 2) + 3) (j + 1) (.tuple ds) := by
  refine ⟨by simp only [PyData.showable]; exact showableAll_of fun d hd => (h d hd).sh, ?_, ?_⟩
  · have := depthAll_of fun d hd => (h d hd).dp
    simp only [PyData.depth]; omega
  · have h1 := piled_le fun d hd => (h d hd).len
    have h2 := join_len (PyData.shownAll ds)
    have h3 : ∀ c : Bool, ((if c = true then ",)" else ")" : String) : Str).length ≤ 2 := fun c => by cases c <;> decide +kernel
    have h4 : (("(" : String) : Str).length = 1 := rfl
    have e : (PyData.shown (.tuple ds)).length = (("(" : String) : Str).length + (Str.join ", " (PyData.shownAll ds)).length + ((if ((PyData.shownAll ds).length == 1) = true then ",)" else ")" : String) : Str).length := by
      simp only [PyData.shown, tupleText]
      rw [strLen_append, strLen_append]
    have := h3 ((PyData.shownAll ds).length == 1)
    omega
theorem sm_lst {k j : Nat} {ds : List PyData} (h : ∀ d ∈ ds, Sm k j d) : Sm (ds.length * (k + 2) + 3) (j + 1) (.list ds) := by
  refine ⟨by simp only [PyData.showable]; exact showableAll_of fun d hd => (h d hd).sh, ?_, ?_⟩
  · have := depthAll_of fun d hd => (h d hd).dp
    simp only [PyData.depth]; omega
  · have h1 := piled_le fun d hd => (h d hd).len
    have h2 := textFrom_le (PyData.shownAll ds) 0 "["
    have h4 : (("[" : String) : Str).length = 1 := rfl
    have h5 : (("]" : String) : Str).length = 1 := rfl
    have e : (PyData.shown (.list ds)).length = (textFrom 0 "[" (PyData.shownAll ds)).length + (("]" : String) : Str).length := by
      simp only [PyData.shown, listText]
      rw [strLen_append]
    omega
theorem shownP_of {k j : Nat} {d : PyData} (s : Sm k j d) (h : k ≤ 16777216 := by omega) (h' : j ≤ 150 := by omega) : shownP d = some (.str d.shown) := by
  unfold shownP
  have := s.dp
  have := s.len
  rw [if_pos]
  rw [Bool.and_eq_true, Bool.and_eq_true]
  exact ⟨s.sh, decide_eq_true (by omega), decide_eq_true (by unfold SZ; omega)⟩
theorem repr_d {k j : Nat} {d : PyData} {h : Hq} (s : Sm k j d) (hk : k ≤ 16777216 := by omega) (hj : j ≤ 150 := by omega) : evB .repr [.d d] h = .ok (.d (.str d.shown)) h := by
  simp only [evB, toDD_d, Option.bind_some, shownP_of s hk hj, liftO_s]

/-! ### small data -/
/-- small numbers in a row -/
theorem sm_ints {l : List Int} {n : Nat} (hn : l.length ≤ n) (h : ∀ x ∈ l, x.natAbs < 10 ^ 40) : Sm (43 * n + 3) 1 (.tuple (l.map .int)) := by
  have : Sm ((l.map PyData.int).length * (41 + 2) + 3) 1 (.tuple (l.map .int)) := sm_tup fun d hd => by
    obtain ⟨x, hx, rfl⟩ := List.mem_map.mp hd
    exact sm_int (h x hx)
  refine this.mono ?_ (Nat.le_refl _)
  rw [List.length_map]
  omega
theorem dpt_of {d : PyData} {k j : Nat} (s : Sm k j d) (h : j ≤ 150 := by omega) : dpt d = true := by
  unfold dpt
  have := s.dp
  exact decide_eq_true (by omega)

/-! ### keys -/
theorem nkeys_ints : ∀ l : List Int, nkeys (l.map .int) = some (l.map .num)
  | [] => rfl
  | x :: l => by simp only [List.map_cons, nkeys, nkey, nkeys_ints l]
theorem nkey_ti {l : List Int} : nkey (.tuple (l.map .int)) = some (.tup (l.map .num)) := by simp only [nkey, nkeys_ints, Option.map_some]
theorem depth_ti {l : List Int} : PyData.depth (.tuple (l.map .int)) ≤ 1 := by
  have := PySem.W.depth_ints l
  simp only [PyData.depth]
  omega
@[simp] theorem isKey_ti {l : List Int} : isKey (.tuple (l.map .int)) = true := by
  have := depth_ti (l := l)
  simp only [isKey, nkey_ti, Option.isSome_some, Bool.true_and]
  exact decide_eq_true (by omega)
theorem num_inj : ∀ {l l' : List Int}, l.map NestedKey.num = l'.map NestedKey.num → l = l'
  | [], [], _ => rfl
  | [], _ :: _, h => by simp at h
  | _ :: _, [], h => by simp at h
  | x :: l, y :: l', h => by
    simp only [List.map_cons, List.cons.injEq, NestedKey.num.injEq] at h
    rw [h.1, num_inj h.2]
@[simp] theorem keyEq_ti {l l' : List Int} : keyEq (.tuple (l.map .int)) (.tuple (l'.map .int)) = decide (l = l') := by
  unfold keyEq
  rw [nkey_ti, nkey_ti, decide_eq_decide]
  constructor
  · intro h
    have h := Option.some.inj h
    injection h with h
    exact num_inj h
  · intro h; rw [h]
end Ev

/-! EvP4: rows of natural numbers, of truth values; loops over a range, over a list. -/
namespace Ev
open PySem
/-- a natural number -/
abbrev ni (k : Nat) : PyData := .int (k : Int)
abbrev bo (k : Bool) : PyData := .bool k
section
variable {h : Hq} {n : Nat}
theorem rangeUp_nat {n : Nat} : rangeUp 0 (n : Int) = (List.range n).map (W.d ∘ ni) := by
  unfold rangeUp
  simp [Function.comp_def]
theorem rg_nat {n : Nat} (h : n ≤ 1000000) : rgOk 0 (n : Int) = true := rg_of (by omega) (by omega) (by omega) (by omega)
theorem for_up {f : W → Vars → Hq → R Fl} (n : Nat) (I : Nat → Vars → Hq → Prop) {env : Vars} {h : Hq} (i : I 0 env h) (st : ∀ j env h, j < n → I j env h → ∃ env' h', f (.d (.int (j : Nat))) env h = .ok (.nx env') h' ∧ I (j + 1) env' h') :
    ∃ env' h', forGo f (rangeUp 0 n) env h = .ok (.nx env') h' ∧ I n env' h' := by
  obtain ⟨env', h', e, i'⟩ := forGo_ok (f := f) I (rangeUp 0 n) 0 env h i fun j w env h e i => by
    obtain ⟨rfl, hj⟩ := rangeUp_at e
    have := st j env h (by omega) (by simpa using i)
    simpa using this
  refine ⟨env', h', e, ?_⟩
  have hl : 0 + (rangeUp 0 (n : Int)).length = n := by rw [rangeUp_len]; omega
  rw [hl] at i'
  exact i'
theorem for_dn {f : W → Vars → Hq → R Fl} (n : Nat) (I : Nat → Vars → Hq → Prop) {env : Vars} {h : Hq} (i : I 0 env h) (st : ∀ j env h, j ≤ n → I j env h → ∃ env' h', f (.d (.int ((n - j : Nat) : Int))) env h = .ok (.nx env') h' ∧ I (j + 1) env' h') :
    ∃ env' h', forGo f (rangeDn n (-1)) env h = .ok (.nx env') h' ∧ I (n + 1) env' h' := by
  obtain ⟨env', h', e, i'⟩ := forGo_ok (f := f) I (rangeDn n (-1)) 0 env h i fun j w env h e i => by
    obtain ⟨rfl, hj⟩ := rangeDn_at e
    have := st j env h (by omega) (by simpa using i)
    rw [show (n : Int) - (j : Int) = ((n - j : Nat) : Int) by omega]
    simpa using this
  refine ⟨env', h', e, ?_⟩
  have hl : 0 + (rangeDn (n : Int) (-1)).length = n + 1 := by rw [rangeDn_len]; omega
  rw [hl] at i'
  exact i'
theorem for_list {α : Type} {f : W → Vars → Hq → R Fl} {emb : α → W} (l : List α) (I : Nat → Vars → Hq → Prop) {env : Vars} {h : Hq} (i : I 0 env h) (st : ∀ j x env h, l[j]? = some x → I j env h → ∃ env' h', f (emb x) env h = .ok (.nx env') h' ∧ I (j + 1) env' h') :
    ∃ env' h', forGo f (l.map emb) env h = .ok (.nx env') h' ∧ I l.length env' h' := by
  obtain ⟨env', h', e, i'⟩ := forGo_ok (f := f) I (l.map emb) 0 env h i fun j w env h e i => by
    rw [List.getElem?_map] at e
    obtain ⟨x, ex, rfl⟩ := Option.map_eq_some_iff.mp e
    have := st j x env h ex (by simpa using i)
    simpa using this
  refine ⟨env', h', e, ?_⟩
  rw [List.length_map, Nat.zero_add] at i'
  exact i'
/-- a loop that may return false: p says where it goes on -/
theorem for_check {α : Type} {f : W → Vars → Hq → R Fl} {emb : α → W} (l : List α) (I : Vars → Prop) (env : Vars) (i : I env) (st : ∀ x env, x ∈ l → I env → ∃ env', f (emb x) env h = .ok (.nx env') h ∧ I env') : ∃ env', forGo f (l.map emb) env h = .ok (.nx env') h ∧ I env' := by
  obtain ⟨env', h', e, eh, i'⟩ := for_list (f := f) l (fun _ env h' => h = h' ∧ I env) ⟨rfl, i⟩ fun j x env h' e q => by
    obtain ⟨eh, q⟩ := q
    subst eh
    obtain ⟨env', e2, i2⟩ := st x env (List.mem_of_getElem? e) q
    exact ⟨env', _, e2, rfl, i2⟩
  subst eh
  exact ⟨env', e, i'⟩
/-- a comprehension over a row -/
theorem lc_go {α : Type} {f : W → Hq → R (Option W)} {emb : α → W} (g : α → Option W) : ∀ (l : List α), (∀ x ∈ l, f (emb x) h = .ok (g x) h) → lcGo f (l.map emb) h = .ok (l.filterMap g) h
  | [], _ => rfl
  | x :: l, e => by
    simp only [List.map_cons, lcGo, e x List.mem_cons_self, b_ok, lc_go g l fun y hy => e y (List.mem_cons_of_mem _ hy), List.filterMap_cons]
    cases g x <;> rfl
/-! ### rows -/
@[simp] theorem any_nat {l : List Nat} {k : Nat} : ((l.map ni).any fun y => PyData.eqv y (.int (k : Int))) = decide (k ∈ l) := by
  rw [Bool.eq_iff_iff]
  simp only [List.any_map, List.any_eq_true, Function.comp, eqv_i, decide_eq_true_eq]
  constructor
  · rintro ⟨x, hx, e⟩
    have : x = k := by exact_mod_cast e
    exact this ▸ hx
  · intro hx
    exact ⟨k, hx, rfl⟩
theorem intsOf_nat : ∀ l : List Nat, intsOf (l.map ni) = some (l.map fun k : Nat => (k : Int))
  | [] => rfl
  | x :: l => by simp only [List.map_cons, intsOf, intsOf_nat l]; rfl
theorem ni_map {l : List Nat} : l.map ni = (l.map fun k : Nat => (k : Int)).map PyData.int := by rw [List.map_map]; rfl
theorem cast_inj : ∀ {l l' : List Nat}, (l.map fun k : Nat => (k : Int)) = l'.map (fun k : Nat => (k : Int)) → l = l'
  | [], [], _ => rfl
  | [], _ :: _, h => by simp at h
  | _ :: _, [], h => by simp at h
  | x :: l, y :: l', h => by
    simp only [List.map_cons, List.cons.injEq] at h
    rw [cast_inj h.2]
    congr 1
    exact_mod_cast h.1
@[simp] theorem eqv_tn {l l' : List Nat} : PyData.eqv (.tuple (l.map ni)) (.tuple (l'.map ni)) = decide (l = l') := by
  rw [ni_map, ni_map, eqv_ti, decide_eq_decide]
  exact ⟨cast_inj, fun e => by rw [e]⟩
@[simp] theorem eqv_ln {l l' : List Nat} : PyData.eqv (.list (l.map ni)) (.list (l'.map ni)) = decide (l = l') := by
  rw [ni_map, ni_map, eqv_li, decide_eq_decide]
  exact ⟨cast_inj, fun e => by rw [e]⟩
@[simp] theorem dpt_tn {l : List Nat} : dpt (.tuple (l.map ni)) = true := by rw [ni_map]; exact dpt_ti
@[simp] theorem dpt_ln {l : List Nat} : dpt (.list (l.map ni)) = true := by rw [ni_map]; exact dpt_li
theorem depthAll_bools : ∀ l : List Bool, PyData.depthAll (l.map bo) = 0
  | [] => rfl
  | x :: l => by simp only [List.map_cons, PyData.depthAll, depthAll_bools l, PyData.depth]; rfl
@[simp] theorem dpt_lb {l : List Bool} : dpt (.list (l.map bo)) = true := by
  unfold dpt
  have := depthAll_bools l
  exact decide_eq_true (by simp only [PyData.depth]; omega)
@[simp] theorem dpt_tb {l : List Bool} : dpt (.tuple (l.map bo)) = true := by
  unfold dpt
  have := depthAll_bools l
  exact decide_eq_true (by simp only [PyData.depth]; omega)
@[simp] theorem eqv_bo {a b : Bool} : PyData.eqv (.bool a) (.bool b) = decide (a = b) := by cases a <;> cases b <;> decide +kernel
theorem eqvAll_bools : ∀ {l l' : List Bool}, PyData.eqvAll (l.map bo) (l'.map bo) = decide (l = l')
  | [], [] => by simp [PyData.eqvAll]
  | [], _ :: _ => by simp [PyData.eqvAll]
  | _ :: _, [] => by simp [PyData.eqvAll]
  | x :: l, y :: l' => by
    simp only [List.map_cons, PyData.eqvAll, eqv_bo, eqvAll_bools]
    by_cases h : x = y <;> simp [h]
@[simp] theorem eqv_lb {l l' : List Bool} : PyData.eqv (.list (l.map bo)) (.list (l'.map bo)) = decide (l = l') := by simp only [PyData.eqv, eqvAll_bools]
@[simp] theorem eqv_tb {l l' : List Bool} : PyData.eqv (.tuple (l.map bo)) (.tuple (l'.map bo)) = decide (l = l') := by simp only [PyData.eqv, eqvAll_bools]
/-- l == [], [] == l -/
@[simp] theorem any_bool {l : List Bool} {k : Bool} : ((l.map bo).any fun y => PyData.eqv y (.bool k)) = decide (k ∈ l) := by
  rw [Bool.eq_iff_iff]
  simp only [List.any_map, List.any_eq_true, Function.comp, eqv_bo, decide_eq_true_eq]
  exact ⟨fun ⟨x, hx, e⟩ => e ▸ hx, fun hx => ⟨k, hx, rfl⟩⟩
theorem sortI_asc {l : List Int} (h : l.Pairwise (· ≤ ·)) : sortI l = l := by
  refine List.Perm.eq_of_pairwise (le := (· ≤ ·)) (fun a b _ _ h1 h2 => Int.le_antisymm h1 h2) ?_ h (List.mergeSort_perm _ _)
  have := List.pairwise_mergeSort (le := fun (a b : Int) => decide (a ≤ b)) (fun a b c h1 h2 => by simp only [decide_eq_true_eq] at *; omega) (fun a b => by simp only [Bool.or_eq_true, decide_eq_true_eq]; omega) l
  exact this.imp fun h => of_decide_eq_true h
theorem sortI_pw (l : List Int) : (sortI l).Pairwise (· ≤ ·) := by
  have := List.pairwise_mergeSort (le := fun (a b : Int) => decide (a ≤ b)) (fun a b c h1 h2 => by simp only [decide_eq_true_eq] at *; omega) (fun a b => by simp only [Bool.or_eq_true, decide_eq_true_eq]; omega) l
  exact this.imp fun h => of_decide_eq_true h
theorem sortI_perm (l : List Int) : (sortI l).Perm l := List.mergeSort_perm _ _
theorem asc_eq' {a b : List Int} (ha : a.Pairwise (· < ·)) (hb : b.Pairwise (· < ·)) (h : ∀ k, k ∈ a ↔ k ∈ b) : a = b := asc_eq ha hb h
theorem bind_2 {i j : Nat} {x y : PyData} {env : Vars} : bindT [i, j] true (.d (.tuple [x, y])) env = some ((env.set i (some (.d x))).set j (some (.d y))) := by simp [bindT, setAll]
theorem boolsOf_map : ∀ l : List Bool, boolsOf (l.map bo) = some l
  | [] => rfl
  | x :: l => by simp only [List.map_cons, boolsOf, boolsOf_map l]; rfl
@[simp] theorem all_d {l : List Bool} : evB .all [.d (.list (l.map bo))] h = .ok (.d (.bool (l.all id))) h := by simp only [evB, toD_d, Option.bind_some, listBools, boolsOf_map, Option.map_some, liftO_s]
@[simp] theorem any_d {l : List Bool} : evB .any [.d (.list (l.map bo))] h = .ok (.d (.bool (l.any id))) h := by simp only [evB, toD_d, Option.bind_some, listBools, boolsOf_map, Option.map_some, liftO_s]
end
end Ev
namespace Ev
open PySem
section
variable {b : Nat} {C : CallF} {s : S} {ss : Ss} {env env' : Vars} {h h' : Hq} {w : W}
theorem seq_nx (e : evS b C s env h = .ok (.nx env') h') : evSs b C (.cons s ss) env h = evSs b C ss env' h' := by simp only [s_cons, e, b_ok]
theorem seq_rt (e : evS b C s env h = .ok (.rt w) h') : evSs b C (.cons s ss) env h = .ok (.rt w) h' := by simp only [s_cons, e, b_ok]
end
end Ev
namespace Ev
open PySem
section
variable {h : Hq}
@[simp] theorem lcEnd_1 {α : Type} {g : α → PyData} {l : List α} : lcEnd 1 (l.map fun x => W.d (g x)) h = .ok (.l h.length) (h ++ [.lst (l.map g)]) := by simp only [lcEnd, allD_mapf]
@[simp] theorem lcEnd_1c {α : Type} {g : α → PyData} {l : List α} : lcEnd 1 (l.map (W.d ∘ g)) h = .ok (.l h.length) (h ++ [.lst (l.map g)]) := by simp only [lcEnd, allD_comp]
@[simp] theorem lcEnd_2 {ws : List W} : lcEnd 2 ws h = .ok (.l h.length) (h ++ [.lsw ws]) := nr rfl
end
end Ev
namespace Ev
open PySem
section
variable {h t : Hq} {a b c a' b' : Ob}
@[simp] theorem at2_0 : (h ++ [a, b])[h.length]? = some a := by simp
@[simp] theorem at2_1 : (h ++ [a, b])[h.length + 1]? = some b := by simp
@[simp] theorem set2_0 : (h ++ [a, b]).set h.length a' = h ++ [a', b] := by simp
@[simp] theorem set2_1 : (h ++ [a, b]).set (h.length + 1) b' = h ++ [a, b'] := by simp
@[simp] theorem take2 : (h ++ [a, b]).take h.length = h := by simp
@[simp] theorem at3_0 : (h ++ [a, b, c])[h.length]? = some a := by simp
@[simp] theorem at3_1 : (h ++ [a, b, c])[h.length + 1]? = some b := by simp
@[simp] theorem at3_2 : (h ++ [a, b, c])[h.length + 2]? = some c := by simp
@[simp] theorem set3_0 : (h ++ [a, b, c]).set h.length a' = h ++ [a', b, c] := by simp
@[simp] theorem set3_1 : (h ++ [a, b, c]).set (h.length + 1) b' = h ++ [a, b', c] := by simp
@[simp] theorem set3_2 : (h ++ [a, b, c]).set (h.length + 2) b' = h ++ [a, b, b'] := by simp
@[simp] theorem take3 : (h ++ [a, b, c]).take h.length = h := by simp
theorem ixN_nat {n k : Nat} (hk : k < n) : L2.ixN n (k : Int) = some k := by
  unfold L2.ixN
  rw [if_pos (by omega), if_pos (by omega)]
  simp
theorem toDD_w {n : Nat} {ws : List W} (e : h[n]? = some (.lsw ws)) (r : ∀ w ∈ ws, ∃ x, toDn 2 h w = some x) : ∃ ds, toDD h (.l n) = some (.list ds) ∧ ds.length = ws.length := by
  have : ∃ ds, allO (ws.map (toDn 2 h)) = some ds ∧ ds.length = ws.length := by
    clear e
    induction ws with
    | nil => exact ⟨[], rfl, rfl⟩
    | cons w ws ih =>
      obtain ⟨ds, e1, e2⟩ := ih fun w hw => r w (List.mem_cons_of_mem _ hw)
      obtain ⟨x, ex⟩ := r w List.mem_cons_self
      exact ⟨x :: ds, by simp only [List.map_cons, ex, allO, e1, Option.map_some], by simp [e2]⟩
  obtain ⟨ds, e1, e2⟩ := this
  exact ⟨ds, by simp only [toDD, toDn, e, e1, Option.map_some], e2⟩
theorem toDn_l {n k : Nat} {xs : List PyData} (e : h[n]? = some (.lst xs)) : toDn (k + 1) h (.l n) = some (.list xs) := by simp only [toDn, e]
/-- l == [] for a list of lists -/
theorem eq_nil_w {n : Nat} {ws : List W} (e : h[n]? = some (.lsw ws)) (r : ∀ w ∈ ws, ∃ x, toDn 2 h w = some x) : cmpW .Eq (.l n) (.d (.list [])) h = .ok (.d (.bool ws.isEmpty)) h := by
  obtain ⟨ds, e1, e2⟩ := toDD_w e r
  simp only [cmpW, dctOf_d, e1, toDD_d]
  rw [eq_d (by simp), eqv_l0]
  simp only [liftO_s]
  cases ds <;> cases ws <;> simp at e2 <;> rfl
end
end Ev
namespace Ev
open PySem
section
variable {k : Nat} {l : List Nat}
@[simp high] theorem in_tn : evCmp .In (.int (k : Int)) (.tuple (l.map ni)) = some (.bool (decide (k ∈ l))) := by rw [in_t dpt_i, any_nat]
@[simp high] theorem nin_tn : evCmp .NotIn (.int (k : Int)) (.tuple (l.map ni)) = some (.bool (!decide (k ∈ l))) := by rw [nin_t dpt_i, any_nat]
@[simp high] theorem in_ln : evCmp .In (.int (k : Int)) (.list (l.map ni)) = some (.bool (decide (k ∈ l))) := by rw [in_l dpt_i, any_nat]
@[simp high] theorem nin_ln : evCmp .NotIn (.int (k : Int)) (.list (l.map ni)) = some (.bool (!decide (k ∈ l))) := by rw [nin_l dpt_i, any_nat]
end
end Ev

namespace Ev
open PySem PySem.Spec L2
abbrev is_name_s0 : S := (.ret (.and (.cmp2 .LtE .LtE (.lit (.int 1)) (.blt .len (.cons (.var 0) .nil)) (.lit (.int 8))) (.one (.blt .all (.cons (.lc 0 [1] false (.e (.var 0)) .none (.cmp .In (.var 1) (.glbS "abcdefghijklmnopqrstuvwxyz"))) .nil)))))
def f_is_name : FD := ⟨1, 2, false, (.cons is_name_s0 .nil)⟩
def n_is_name : List Str := ["word", "sign"]
abbrev check_ends_b1_s0 : S := (.raism 1 (.ad (.ad (.st 0) (.c ": ")) (.v 1)) 2 (.cons (.lit (.int 0)) (.cons (.lit (.str "too many makes")) .nil)))
def check_ends_b1 : Ss := (.cons check_ends_b1_s0 .nil)
abbrev check_ends_b0_s0 : S := (.raism 1 (.ad (.ad (.st 0) (.c ": ")) (.v 1)) 2 (.cons (.lit (.int 0)) (.cons (.lit (.str "no makes")) .nil)))
def check_ends_b0 : Ss := (.cons check_ends_b0_s0 .nil)
abbrev check_ends_s0 : S := (.ifs (.cmp .Eq (.blt .len (.cons (.var 0) .nil)) (.lit (.int 0))) check_ends_b0 .nil)
abbrev check_ends_s1 : S := (.ifs (.cmp .Gt (.blt .len (.cons (.var 0) .nil)) (.glb 24)) check_ends_b1 .nil)
def f_check_ends : FD := ⟨1, 1, false, (.cons check_ends_s0 (.cons check_ends_s1 .nil))⟩
def n_check_ends : List Str := ["makes"]
abbrev check_last_b0_s0 : S := (.raism 1 (.ad (.ad (.st 0) (.c ": ")) (.v 1)) 2 (.cons (.lit (.int 0)) (.cons (.lit (.str "not of the last")) .nil)))
def check_last_b0 : Ss := (.cons check_last_b0_s0 .nil)
abbrev check_last_s0 : S := (.ifs (.cmp .NotEq (.blt .len (.cons (.call 3 (.cons (.tup (.cons (.lit (.str "history")) (.cons (.var 0) .nil))) (.cons (.bin .Sub (.blt .len (.cons (.var 0) .nil)) (.lit (.int 1))) .nil))) .nil)) (.blt .len (.cons (.var 0) .nil))) check_last_b0 .nil)
def f_check_last : FD := ⟨1, 1, false, (.cons check_last_s0 .nil)⟩
def n_check_last : List Str := ["makes"]
abbrev ancestors_b3_s0 : S := (.app (.var 2) (.var 4))
def ancestors_b3 : Ss := (.cons ancestors_b3_s0 .nil)
abbrev ancestors_b2_s0 : S := (.ifs (.cmp .NotIn (.var 4) (.var 2)) ancestors_b3 .nil)
def ancestors_b2 : Ss := (.cons ancestors_b2_s0 .nil)
abbrev ancestors_b1_s0 : S := (.forS [4] false (.e (.idx (.idx (.idx (.var 0) (.lit (.int 1))) (.var 3)) (.lit (.int 1)))) ancestors_b2)
def ancestors_b1 : Ss := (.cons ancestors_b1_s0 .nil)
abbrev ancestors_b0_s0 : S := (.ifs (.cmp .In (.var 3) (.var 2)) ancestors_b1 .nil)
def ancestors_b0 : Ss := (.cons ancestors_b0_s0 .nil)
abbrev ancestors_s0 : S := (.asg [2] false (.lstM (.cons (.var 1) .nil)))
abbrev ancestors_s1 : S := (.forS [3] false (.rgd (.var 1) (.neg (.lit (.int 1)))) ancestors_b0)
abbrev ancestors_s2 : S := (.ret (.blt .tuple (.cons (.blt .sorted (.cons (.var 2) .nil)) .nil)))
def f_ancestors : FD := ⟨2, 5, true, (.cons ancestors_s0 (.cons ancestors_s1 (.cons ancestors_s2 .nil)))⟩
def n_ancestors : List Str := ["history", "m", "found", "k", "parent"]
abbrev words_of_s0 : S := (.ret (.lc 0 [1] false (.e (.mth .split (.idx (.mth .split (.var 0) (.cons (.lit (.str "#")) .nil)) (.lit (.int 0))) (.cons (.lit (.str " ")) .nil))) (.some (.cmp .NotEq (.var 1) (.lit (.str "")))) (.var 1)))
def f_words_of : FD := ⟨1, 2, false, (.cons words_of_s0 .nil)⟩
def n_words_of : List Str := ["line", "word"]
abbrev parents_of_b3_s0 : S := (.raism 1 (.ad (.ad (.st 0) (.c ": ")) (.v 1)) 2 (.cons (.var 0) (.cons (.lit (.str "too many parents")) .nil)))
def parents_of_b3 : Ss := (.cons parents_of_b3_s0 .nil)
abbrev parents_of_b2_s0 : S := (.raism 1 (.ad (.ad (.st 0) (.c ": ")) (.v 1)) 2 (.cons (.var 0) (.cons (.lit (.str "twice a parent")) .nil)))
def parents_of_b2 : Ss := (.cons parents_of_b2_s0 .nil)
abbrev parents_of_b1_s0 : S := (.raism 1 (.ad (.ad (.st 0) (.c ": ")) (.v 1)) 2 (.cons (.var 0) (.cons (.lit (.str "unknown make")) .nil)))
def parents_of_b1 : Ss := (.cons parents_of_b1_s0 .nil)
abbrev parents_of_b0_s0 : S := (.ifs (.cmp .NotIn (.var 4) (.var 2)) parents_of_b1 .nil)
abbrev parents_of_b0_s1 : S := (.ifs (.cmp .In (.mth .index (.var 2) (.cons (.var 4) .nil)) (.var 3)) parents_of_b2 .nil)
abbrev parents_of_b0_s2 : S := (.app (.var 3) (.mth .index (.var 2) (.cons (.var 4) .nil)))
def parents_of_b0 : Ss := (.cons parents_of_b0_s0 (.cons parents_of_b0_s1 (.cons parents_of_b0_s2 .nil)))
abbrev parents_of_s0 : S := (.asg [3] false (.lstM .nil))
abbrev parents_of_s1 : S := (.forS [4] false (.e (.var 1)) parents_of_b0)
abbrev parents_of_s2 : S := (.ifs (.cmp .Gt (.blt .len (.cons (.var 3) .nil)) (.glb 4)) parents_of_b3 .nil)
abbrev parents_of_s3 : S := (.ret (.blt .tuple (.cons (.blt .sorted (.cons (.var 3) .nil)) .nil)))
def f_parents_of : FD := ⟨3, 5, true, (.cons parents_of_s0 (.cons parents_of_s1 (.cons parents_of_s2 (.cons parents_of_s3 .nil))))⟩
def n_parents_of : List Str := ["number", "words", "names", "found", "word"]
abbrev make_of_b3_s0 : S := (.raism 1 (.ad (.ad (.st 0) (.c ": ")) (.v 1)) 2 (.cons (.var 0) (.cons (.lit (.str "two of a name")) .nil)))
def make_of_b3 : Ss := (.cons make_of_b3_s0 .nil)
abbrev make_of_b2_s0 : S := (.raism 1 (.ad (.ad (.st 0) (.c ": ")) (.v 1)) 2 (.cons (.var 0) (.cons (.lit (.str "bad name")) .nil)))
def make_of_b2 : Ss := (.cons make_of_b2_s0 .nil)
abbrev make_of_b1_s0 : S := (.raism 1 (.ad (.ad (.st 0) (.c ": ")) (.v 1)) 2 (.cons (.var 0) (.cons (.lit (.str "wrong number of words")) .nil)))
def make_of_b1 : Ss := (.cons make_of_b1_s0 .nil)
abbrev make_of_b0_s0 : S := (.raism 1 (.ad (.ad (.st 0) (.c ": ")) (.v 1)) 2 (.cons (.var 0) (.cons (.lit (.str "unknown line")) .nil)))
def make_of_b0 : Ss := (.cons make_of_b0_s0 .nil)
abbrev make_of_s0 : S := (.ifs (.cmp .NotEq (.idx (.var 1) (.lit (.int 0))) (.lit (.str "make"))) make_of_b0 .nil)
abbrev make_of_s1 : S := (.ifs (.or (.cmp .Lt (.blt .len (.cons (.var 1) .nil)) (.lit (.int 2))) (.or (.cmp .Eq (.blt .len (.cons (.var 1) .nil)) (.lit (.int 3))) (.one (.and (.cmp .Gt (.blt .len (.cons (.var 1) .nil)) (.lit (.int 3))) (.one (.cmp .NotEq (.idx (.var 1) (.lit (.int 2))) (.lit (.str "from")))))))) make_of_b1 .nil)
abbrev make_of_s2 : S := (.ifs (.nt (.call 0 (.cons (.idx (.var 1) (.lit (.int 1))) .nil))) make_of_b2 .nil)
abbrev make_of_s3 : S := (.ifs (.cmp .In (.idx (.var 1) (.lit (.int 1))) (.var 2)) make_of_b3 .nil)
abbrev make_of_s4 : S := (.ret (.tup (.cons (.idx (.var 1) (.lit (.int 1))) (.cons (.call 5 (.cons (.var 0) (.cons (.slc (.var 1) (.some (.lit (.int 3))) .none) (.cons (.var 2) .nil)))) .nil))))
def f_make_of : FD := ⟨3, 3, false, (.cons make_of_s0 (.cons make_of_s1 (.cons make_of_s2 (.cons make_of_s3 (.cons make_of_s4 .nil)))))⟩
def n_make_of : List Str := ["number", "words", "names"]
abbrev parse_b1_s0 : S := (.app (.var 1) (.call 6 (.cons (.bin .Add (.var 3) (.lit (.int 1))) (.cons (.var 4) (.cons (.lc 0 [5] false (.e (.var 1)) .none (.idx (.var 5) (.lit (.int 0)))) .nil)))))
def parse_b1 : Ss := (.cons parse_b1_s0 .nil)
abbrev parse_b0_s0 : S := (.asg [4] false (.call 4 (.cons (.idx (.var 2) (.var 3)) .nil)))
abbrev parse_b0_s1 : S := (.ifs (.cmp .NotEq (.var 4) (.lst .nil)) parse_b1 .nil)
def parse_b0 : Ss := (.cons parse_b0_s0 (.cons parse_b0_s1 .nil))
abbrev parse_s0 : S := (.asg [1] false (.lstM .nil))
abbrev parse_s1 : S := (.asg [2] false (.mth .split (.var 0) (.cons (.lit (.str "\n")) .nil)))
abbrev parse_s2 : S := (.forS [3] false (.rg1 (.blt .len (.cons (.var 2) .nil))) parse_b0)
abbrev parse_s3 : S := (.expr (.call 1 (.cons (.var 1) .nil)))
abbrev parse_s4 : S := (.expr (.call 2 (.cons (.blt .tuple (.cons (.var 1) .nil)) .nil)))
abbrev parse_s5 : S := (.ret (.tup (.cons (.lit (.str "history")) (.cons (.blt .tuple (.cons (.var 1) .nil)) .nil))))
def f_parse : FD := ⟨1, 6, true, (.cons parse_s0 (.cons parse_s1 (.cons parse_s2 (.cons parse_s3 (.cons parse_s4 (.cons parse_s5 .nil))))))⟩
def n_parse : List Str := ["text", "makes", "lines", "k", "words", "make"]
abbrev law_cell_b0_s0 : S := (.ret (.idx (.var 0) (.var 1)))
def law_cell_b0 : Ss := (.cons law_cell_b0_s0 .nil)
abbrev law_cell_s0 : S := (.ifs (.cmp .Lt (.var 1) (.blt .len (.cons (.var 0) .nil))) law_cell_b0 .nil)
abbrev law_cell_s1 : S := (.ret (.lit (.int 0)))
def f_law_cell : FD := ⟨2, 2, false, (.cons law_cell_s0 (.cons law_cell_s1 .nil))⟩
def n_law_cell : List Str := ["_law_script", "_law_k"]
abbrev law_digits_b6_s0 : S := (.asg [7] false (.bin .Mod (.blt .int (.cons (.bin .Add (.bin .Add (.bin .Mult (.var 7) (.lit (.int 16807))) (.bin .Mult (.lit (.int 7)) (.var 6))) (.lit (.int 1))) .nil)) (.lit (.int 2147483647))))
abbrev law_digits_b6_s1 : S := (.app (.var 3) (.bin .Mod (.blt .int (.cons (.bin .FloorDiv (.var 7) (.lit (.int 997))) .nil)) (.lit (.int 1000))))
def law_digits_b6 : Ss := (.cons law_digits_b6_s0 (.cons law_digits_b6_s1 .nil))
abbrev law_digits_b5_s0 : S := (.asg [7] false (.bin .Mod (.blt .int (.cons (.bin .Add (.bin .Add (.bin .Mult (.var 5) (.lit (.int 48271))) (.bin .Mult (.var 4) (.lit (.int 69621)))) (.lit (.int 11))) .nil)) (.lit (.int 2147483647))))
abbrev law_digits_b5_s1 : S := (.forS [6] false (.rg1 (.lit (.int 12))) law_digits_b6)
def law_digits_b5 : Ss := (.cons law_digits_b5_s0 (.cons law_digits_b5_s1 .nil))
abbrev law_digits_b4_s0 : S := (.app (.var 3) (.bin .Mod (.blt .int (.cons (.var 5) .nil)) (.lit (.int 1000))))
abbrev law_digits_b4_s1 : S := (.asg [5] false (.bin .FloorDiv (.var 5) (.lit (.int 1000))))
def law_digits_b4 : Ss := (.cons law_digits_b4_s0 (.cons law_digits_b4_s1 .nil))
abbrev law_digits_b3_s0 : S := (.ifs (.cmp .Gt (.var 5) (.lit (.int 0))) law_digits_b4 .nil)
def law_digits_b3 : Ss := (.cons law_digits_b3_s0 .nil)
abbrev law_digits_b2_s0 : S := (.forS [6] false (.rg1 (.lit (.int 60))) law_digits_b3)
def law_digits_b2 : Ss := (.cons law_digits_b2_s0 .nil)
abbrev law_digits_b1_s0 : S := (.asg [5] false (.bin .Sub (.lit (.int 1)) (.bin .Mult (.lit (.int 2)) (.var 5))))
def law_digits_b1 : Ss := (.cons law_digits_b1_s0 .nil)
abbrev law_digits_b0_s0 : S := (.asg [5] false (.call 8 (.cons (.var 0) (.cons (.var 4) .nil))))
abbrev law_digits_b0_s1 : S := (.ifs (.cmp .Lt (.var 5) (.lit (.int 0))) law_digits_b1 .nil)
abbrev law_digits_b0_s2 : S := (.ifs (.cmp .GtE (.var 5) (.bin .Pow (.lit (.int 10)) (.lit (.int 18)))) law_digits_b2 law_digits_b5)
def law_digits_b0 : Ss := (.cons law_digits_b0_s0 (.cons law_digits_b0_s1 (.cons law_digits_b0_s2 .nil)))
abbrev law_digits_s0 : S := (.asg [3] false (.lstM .nil))
abbrev law_digits_s1 : S := (.forS [4] false (.rg2 (.var 1) (.var 2)) law_digits_b0)
abbrev law_digits_s2 : S := (.frz 3)
abbrev law_digits_s3 : S := (.ret (.var 3))
def f_law_digits : FD := ⟨3, 8, true, (.cons law_digits_s0 (.cons law_digits_s1 (.cons law_digits_s2 (.cons law_digits_s3 .nil))))⟩
def n_law_digits : List Str := ["_law_script", "_law_first", "_law_last", "_law_digits_here", "_law_k", "_law_cell_here", "_law_turn", "_law_seed"]
abbrev law_draw_b0_s0 : S := (.ret (.bin .Mod (.blt .int (.cons (.idx (.idx (.var 0) (.lit (.int 0))) (.var 2)) .nil)) (.var 1)))
def law_draw_b0 : Ss := (.cons law_draw_b0_s0 .nil)
abbrev law_draw_s0 : S := (.asg [2] false (.idx (.var 0) (.lit (.int 1))))
abbrev law_draw_s1 : S := (.set (.var 0) (.lit (.int 1)) (.bin .Add (.var 2) (.lit (.int 1))))
abbrev law_draw_s2 : S := (.ifs (.cmp .Lt (.var 2) (.blt .len (.cons (.idx (.var 0) (.lit (.int 0))) .nil))) law_draw_b0 .nil)
abbrev law_draw_s3 : S := (.ret (.lit (.int 0)))
def f_law_draw : FD := ⟨2, 3, false, (.cons law_draw_s0 (.cons law_draw_s1 (.cons law_draw_s2 (.cons law_draw_s3 .nil))))⟩
def n_law_draw : List Str := ["_law_box", "_law_many", "_law_at"]
abbrev law_pick_s0 : S := (.ret (.idx (.var 1) (.bin .Mod (.blt .int (.cons (.call 10 (.cons (.var 0) (.cons (.lit (.int 900)) .nil))) .nil)) (.blt .len (.cons (.var 1) .nil)))))
def f_law_pick : FD := ⟨2, 2, false, (.cons law_pick_s0 .nil)⟩
def n_law_pick : List Str := ["_law_box", "_law_things"]
abbrev law_same_s0 : S := (.ret (.cmp .Eq (.blt .repr (.cons (.var 0) .nil)) (.blt .repr (.cons (.var 1) .nil))))
def f_law_same : FD := ⟨2, 2, false, (.cons law_same_s0 .nil)⟩
def n_law_same : List Str := ["_law_actual", "_law_due"]
abbrev law_word_b1_s0 : S := (.ret (.lit (.str "make")))
def law_word_b1 : Ss := (.cons law_word_b1_s0 .nil)
abbrev law_word_b0_s0 : S := (.ret (.lit (.str "from")))
def law_word_b0 : Ss := (.cons law_word_b0_s0 .nil)
abbrev law_word_s0 : S := (.ifs (.and (.cmp .Eq (.var 1) (.lit (.int 1))) (.one (.cmp .Eq (.var 2) (.lit (.int 3))))) law_word_b0 .nil)
abbrev law_word_s1 : S := (.ifs (.and (.cmp .Eq (.var 1) (.lit (.int 0))) (.one (.cmp .Eq (.var 2) (.lit (.int 5))))) law_word_b1 .nil)
abbrev law_word_s2 : S := (.ret (.bin .Add (.idx (.lit (.str "abcdefghijklmnopqrstuvwxyz")) (.bin .Mod (.blt .int (.cons (.bin .Add (.var 2) (.var 1)) .nil)) (.lit (.int 26)))) (.idx (.lst (.cons (.lit (.str "")) (.cons (.lit (.str "x")) (.cons (.lit (.str "zzzzzzz")) .nil)))) (.bin .Mod (.blt .int (.cons (.var 2) .nil)) (.lit (.int 3))))))
def f_law_word : FD := ⟨3, 3, false, (.cons law_word_s0 (.cons law_word_s1 (.cons law_word_s2 .nil)))⟩
def n_law_word : List Str := ["_law_box", "_law_k", "_law_at"]
abbrev law_history_b3_s0 : S := (.app (.idx (.var 3) (.var 5)) (.var 7))
def law_history_b3 : Ss := (.cons law_history_b3_s0 .nil)
abbrev law_history_b2_s0 : S := (.asg [5] false (.bin .Add (.lit (.int 1)) (.call 10 (.cons (.var 0) (.cons (.bin .Sub (.var 2) (.lit (.int 1))) .nil)))))
abbrev law_history_b2_s1 : S := (.asg [7] false (.call 10 (.cons (.var 0) (.cons (.var 5) .nil))))
abbrev law_history_b2_s2 : S := (.ifs (.and (.cmp .NotIn (.var 7) (.idx (.var 3) (.var 5))) (.one (.cmp .Lt (.blt .len (.cons (.idx (.var 3) (.var 5)) .nil)) (.lit (.int 4))))) law_history_b3 .nil)
def law_history_b2 : Ss := (.cons law_history_b2_s0 (.cons law_history_b2_s1 (.cons law_history_b2_s2 .nil)))
abbrev law_history_b1_s0 : S := (.asg [5] false (.bin .Add (.var 4) (.lit (.int 1))))
def law_history_b1 : Ss := (.cons law_history_b1_s0 .nil)
abbrev law_history_b0_s0 : S := (.asg [5] false (.bin .Add (.bin .Add (.var 4) (.lit (.int 1))) (.bin .Mult (.call 10 (.cons (.var 0) (.cons (.bin .Sub (.bin .Sub (.var 2) (.lit (.int 1))) (.var 4)) .nil))) (.blt .int (.cons (.cmp .Eq (.call 10 (.cons (.var 0) (.cons (.lit (.int 2)) .nil))) (.lit (.int 0))) .nil)))))
abbrev law_history_b0_s1 : S := (.ifs (.cmp .GtE (.blt .len (.cons (.idx (.var 3) (.var 5)) .nil)) (.lit (.int 2))) law_history_b1 .nil)
abbrev law_history_b0_s2 : S := (.app (.idx (.var 3) (.var 5)) (.var 4))
def law_history_b0 : Ss := (.cons law_history_b0_s0 (.cons law_history_b0_s1 (.cons law_history_b0_s2 .nil)))
abbrev law_history_s0 : S := (.asg [2] false (.bin .Add (.lit (.int 1)) (.call 10 (.cons (.var 0) (.cons (.var 1) .nil)))))
abbrev law_history_s1 : S := (.asg [3] false (.lc 2 [4] false (.rg1 (.var 2)) .none (.lstM .nil)))
abbrev law_history_s2 : S := (.forS [4] false (.rg1 (.bin .Sub (.var 2) (.lit (.int 1)))) law_history_b0)
abbrev law_history_s3 : S := (.forS [6] false (.rg1 (.bin .Mult (.call 10 (.cons (.var 0) (.cons (.lit (.int 5)) .nil))) (.blt .int (.cons (.cmp .Gt (.var 2) (.lit (.int 1))) .nil)))) law_history_b2)
abbrev law_history_s4 : S := (.asg [8] false (.call 10 (.cons (.var 0) (.cons (.lit (.int 12)) .nil))))
abbrev law_history_s5 : S := (.ret (.tup (.cons (.lit (.str "history")) (.cons (.blt .tuple (.cons (.lc 0 [4] false (.rg1 (.var 2)) .none (.tup (.cons (.call 13 (.cons (.var 0) (.cons (.var 4) (.cons (.var 8) .nil)))) (.cons (.blt .tuple (.cons (.blt .sorted (.cons (.idx (.var 3) (.var 4)) .nil)) .nil)) .nil)))) .nil)) .nil))))
def f_law_history : FD := ⟨2, 9, true, (.cons law_history_s0 (.cons law_history_s1 (.cons law_history_s2 (.cons law_history_s3 (.cons law_history_s4 (.cons law_history_s5 .nil))))))⟩
def n_law_history : List Str := ["_law_box", "_law_most", "_law_many", "_law_parents", "_law_k", "_law_child", "_law_turn", "_law_parent", "_law_at"]
abbrev law_above_b1_s0 : S := (.set (.var 2) (.var 4) (.or (.idx (.var 2) (.var 4)) (.one (.idx (.var 2) (.var 3)))))
def law_above_b1 : Ss := (.cons law_above_b1_s0 .nil)
abbrev law_above_b0_s0 : S := (.forS [4] false (.e (.idx (.idx (.idx (.var 0) (.lit (.int 1))) (.var 3)) (.lit (.int 1)))) law_above_b1)
def law_above_b0 : Ss := (.cons law_above_b0_s0 .nil)
abbrev law_above_s0 : S := (.asg [2] false (.lc 1 [3] false (.rg1 (.blt .len (.cons (.idx (.var 0) (.lit (.int 1))) .nil))) .none (.cmp .Eq (.var 3) (.var 1))))
abbrev law_above_s1 : S := (.forS [3] false (.rgd (.var 1) (.neg (.lit (.int 1)))) law_above_b0)
abbrev law_above_s2 : S := (.frz 2)
abbrev law_above_s3 : S := (.ret (.var 2))
def f_law_above : FD := ⟨2, 5, true, (.cons law_above_s0 (.cons law_above_s1 (.cons law_above_s2 (.cons law_above_s3 .nil))))⟩
def n_law_above : List Str := ["_law_history_here", "_law_m", "_law_marks", "_law_k", "_law_parent"]
abbrev law_told_b2_s0 : S := (.ret (.lit (.str "other")))
def law_told_b2 : Ss := (.cons law_told_b2_s0 .nil)
abbrev law_told_b1_s0 : S := (.ifs (.or (.exis 1 [2]) (.one (.nt (.exis 1 [1])))) law_told_b2 .nil)
abbrev law_told_b1_s1 : S := (.ret (.tup (.cons (.exfld 1 [(1, 1)]) (.cons (.exfld 1 [(1, 0)]) .nil))))
def law_told_b1 : Ss := (.cons law_told_b1_s0 (.cons law_told_b1_s1 .nil))
abbrev law_told_b0_s0 : S := (.expr (.call 7 (.cons (.var 0) .nil)))
def law_told_b0 : Ss := (.cons law_told_b0_s0 .nil)
abbrev law_told_s0 : S := (.tryS [0, 1, 2] (some 1) [0] law_told_b0 law_told_b1)
abbrev law_told_s1 : S := (.ret (.lit (.str "read")))
def f_law_told : FD := ⟨1, 2, false, (.cons law_told_s0 (.cons law_told_s1 .nil))⟩
def n_law_told : List Str := ["_law_text", "e"]
abbrev law_wrong_s0 : S := (.asg [0] false (.lst (.cons (.tup (.cons (.lit (.str "mak f")) (.cons (.lit (.str "unknown line")) .nil))) (.cons (.tup (.cons (.lit (.str "Make f")) (.cons (.lit (.str "unknown line")) .nil))) (.cons (.tup (.cons (.lit (.str "from a")) (.cons (.lit (.str "unknown line")) .nil))) (.cons (.tup (.cons (.lit (.str "f")) (.cons (.lit (.str "unknown line")) .nil))) (.cons (.tup (.cons (.lit (.str "makef from a")) (.cons (.lit (.str "unknown line")) .nil))) .nil)))))))
abbrev law_wrong_s1 : S := (.asg [0] false (.bin .Add (.var 0) (.lst (.cons (.tup (.cons (.lit (.str "make")) (.cons (.lit (.str "wrong number of words")) .nil))) (.cons (.tup (.cons (.lit (.str "make f a")) (.cons (.lit (.str "wrong number of words")) .nil))) (.cons (.tup (.cons (.lit (.str "make f from")) (.cons (.lit (.str "wrong number of words")) .nil))) .nil))))))
abbrev law_wrong_s2 : S := (.asg [0] false (.bin .Add (.var 0) (.lst (.cons (.tup (.cons (.lit (.str "make f of a")) (.cons (.lit (.str "wrong number of words")) .nil))) (.cons (.tup (.cons (.lit (.str "make f a from b")) (.cons (.lit (.str "wrong number of words")) .nil))) (.cons (.tup (.cons (.lit (.str "make F a")) (.cons (.lit (.str "wrong number of words")) .nil))) .nil))))))
abbrev law_wrong_s3 : S := (.asg [0] false (.bin .Add (.var 0) (.lst (.cons (.tup (.cons (.lit (.str "make F")) (.cons (.lit (.str "bad name")) .nil))) (.cons (.tup (.cons (.lit (.str "make f1 from a")) (.cons (.lit (.str "bad name")) .nil))) (.cons (.tup (.cons (.lit (.str "make abcdefghi")) (.cons (.lit (.str "bad name")) .nil))) (.cons (.tup (.cons (.lit (.str "make f! from zz")) (.cons (.lit (.str "bad name")) .nil))) (.cons (.tup (.cons (.lit (.str "make a	b")) (.cons (.lit (.str "bad name")) .nil))) .nil))))))))
abbrev law_wrong_s4 : S := (.asg [0] false (.bin .Add (.var 0) (.lst (.cons (.tup (.cons (.lit (.str "make a")) (.cons (.lit (.str "two of a name")) .nil))) (.cons (.tup (.cons (.lit (.str "make e from a a")) (.cons (.lit (.str "two of a name")) .nil))) (.cons (.tup (.cons (.lit (.str "make b from zz")) (.cons (.lit (.str "two of a name")) .nil))) .nil))))))
abbrev law_wrong_s5 : S := (.asg [0] false (.bin .Add (.var 0) (.lst (.cons (.tup (.cons (.lit (.str "make f from zz")) (.cons (.lit (.str "unknown make")) .nil))) (.cons (.tup (.cons (.lit (.str "make f from f")) (.cons (.lit (.str "unknown make")) .nil))) (.cons (.tup (.cons (.lit (.str "make f from a A")) (.cons (.lit (.str "unknown make")) .nil))) (.cons (.tup (.cons (.lit (.str "make f from a zz a")) (.cons (.lit (.str "unknown make")) .nil))) .nil)))))))
abbrev law_wrong_s6 : S := (.asg [0] false (.bin .Add (.var 0) (.lst (.cons (.tup (.cons (.lit (.str "make f from a a")) (.cons (.lit (.str "twice a parent")) .nil))) (.cons (.tup (.cons (.lit (.str "make f from b a b zz")) (.cons (.lit (.str "twice a parent")) .nil))) (.cons (.tup (.cons (.lit (.str "make f from a b c d a")) (.cons (.lit (.str "twice a parent")) .nil))) .nil))))))
abbrev law_wrong_s7 : S := (.ret (.bin .Add (.var 0) (.lst (.cons (.tup (.cons (.lit (.str "make f from a b c d e")) (.cons (.lit (.str "too many parents")) .nil))) (.cons (.tup (.cons (.lit (.str "make from from e d c b a # x")) (.cons (.lit (.str "too many parents")) .nil))) .nil)))))
def f_law_wrong : FD := ⟨0, 1, false, (.cons law_wrong_s0 (.cons law_wrong_s1 (.cons law_wrong_s2 (.cons law_wrong_s3 (.cons law_wrong_s4 (.cons law_wrong_s5 (.cons law_wrong_s6 (.cons law_wrong_s7 .nil))))))))⟩
def n_law_wrong : List Str := ["_law_rows"]
abbrev law_head_b2_s0 : S := (.asg [4] false (.bin .Add (.bin .Add (.var 4) (.lit (.str " from "))) (.idx (.lit (.str "abcd")) (.call 10 (.cons (.var 0) (.cons (.var 2) .nil))))))
def law_head_b2 : Ss := (.cons law_head_b2_s0 .nil)
abbrev law_head_b1_s0 : S := (.app (.var 1) (.call 11 (.cons (.var 0) (.cons (.lst (.cons (.lit (.str "")) (.cons (.lit (.str "   ")) (.cons (.lit (.str "# make a")) (.cons (.lit (.str "#")) .nil))))) .nil))))
def law_head_b1 : Ss := (.cons law_head_b1_s0 .nil)
abbrev law_head_b0_s0 : S := (.forS [3] false (.rg1 (.call 10 (.cons (.var 0) (.cons (.lit (.int 3)) .nil)))) law_head_b1)
abbrev law_head_b0_s1 : S := (.asg [4] false (.bin .Add (.lit (.str "make ")) (.idx (.lit (.str "abcde")) (.var 2))))
abbrev law_head_b0_s2 : S := (.ifs (.and (.cmp .Gt (.var 2) (.lit (.int 0))) (.one (.cmp .Gt (.call 10 (.cons (.var 0) (.cons (.lit (.int 3)) .nil))) (.lit (.int 0))))) law_head_b2 .nil)
abbrev law_head_b0_s3 : S := (.app (.var 1) (.var 4))
def law_head_b0 : Ss := (.cons law_head_b0_s0 (.cons law_head_b0_s1 (.cons law_head_b0_s2 (.cons law_head_b0_s3 .nil))))
abbrev law_head_s0 : S := (.asg [1] false (.lstM .nil))
abbrev law_head_s1 : S := (.forS [2] false (.rg1 (.lit (.int 5))) law_head_b0)
abbrev law_head_s2 : S := (.ret (.var 1))
def f_law_head : FD := ⟨1, 5, false, (.cons law_head_s0 (.cons law_head_s1 (.cons law_head_s2 .nil)))⟩
def n_law_head : List Str := ["_law_box", "_law_lines", "_law_k", "_law_turn", "_law_words"]
abbrev law_wholes_s0 : S := (.asg [1] false (.lit (.str "abcdefghijklmnopqrstuvwxyz")))
abbrev law_wholes_s1 : S := (.asg [2] false (.mth .join (.lit (.str "")) (.cons (.lc 0 [3] false (.rg1 (.lit (.int 25))) .none (.bin .Add (.bin .Add (.bin .Add (.lit (.str "make ")) (.idx (.var 1) (.var 3))) (.bin .Mult (.bin .Add (.lit (.str " from ")) (.idx (.var 1) (.bin .Sub (.var 3) (.lit (.int 1))))) (.blt .int (.cons (.cmp .Gt (.var 3) (.lit (.int 0))) .nil)))) (.lit (.str "\n")))) .nil)))
abbrev law_wholes_s2 : S := (.asg [4] false (.lst (.cons (.tup (.cons (.lit (.str "")) (.cons (.lit (.str "no makes")) .nil))) (.cons (.tup (.cons (.lit (.str "\n\n")) (.cons (.lit (.str "no makes")) .nil))) (.cons (.tup (.cons (.lit (.str "# make a\n")) (.cons (.lit (.str "no makes")) .nil))) (.cons (.tup (.cons (.var 2) (.cons (.lit (.str "too many makes")) .nil))) (.cons (.tup (.cons (.bin .Add (.var 2) (.lit (.str "make z\n"))) (.cons (.lit (.str "too many makes")) .nil))) .nil)))))))
abbrev law_wholes_s3 : S := (.ret (.bin .Add (.var 4) (.lst (.cons (.tup (.cons (.lit (.str "make a\nmake b\n")) (.cons (.lit (.str "not of the last")) .nil))) (.cons (.tup (.cons (.lit (.str "make a\nmake b from a\nmake c from a\n")) (.cons (.lit (.str "not of the last")) .nil))) .nil)))))
def f_law_wholes : FD := ⟨1, 5, false, (.cons law_wholes_s0 (.cons law_wholes_s1 (.cons law_wholes_s2 (.cons law_wholes_s3 .nil))))⟩
def n_law_wholes : List Str := ["_law_box", "_law_letters", "_law_chain", "_law_k", "_law_rows"]
abbrev law_b4_s0 : S := (.ret (.lit (.bool false)))
def law_b4 : Ss := (.cons law_b4_s0 .nil)
abbrev law_b3_s0 : S := (.ifs (.nt (.call 12 (.cons (.call 16 (.cons (.var 6) .nil)) (.cons (.tup (.cons (.lit (.int 0)) (.cons (.var 3) .nil))) .nil)))) law_b4 .nil)
def law_b3 : Ss := (.cons law_b3_s0 .nil)
abbrev law_b2_s0 : S := (.ret (.lit (.bool false)))
def law_b2 : Ss := (.cons law_b2_s0 .nil)
abbrev law_b1_s0 : S := (.app (.var 4) (.call 11 (.cons (.var 1) (.cons (.lst (.cons (.lit (.str "")) (.cons (.lit (.str "# ")) .nil))) .nil))))
def law_b1 : Ss := (.cons law_b1_s0 .nil)
abbrev law_b0_s0 : S := (.asg [4] false (.call 18 (.cons (.var 1) .nil)))
abbrev law_b0_s1 : S := (.forS [5] false (.rg1 (.call 10 (.cons (.var 1) (.cons (.lit (.int 2)) .nil)))) law_b1)
abbrev law_b0_s2 : S := (.asg [6] false (.mth .join (.lit (.str "\n")) (.cons (.bin .Add (.var 4) (.lst (.cons (.bin .Add (.bin .Mult (.lit (.str " ")) (.call 10 (.cons (.var 1) (.cons (.lit (.int 2)) .nil)))) (.var 2)) (.cons (.call 11 (.cons (.var 1) (.cons (.lst (.cons (.lit (.str "")) (.cons (.lit (.str "make")) (.cons (.lit (.str "zz")) (.cons (.lit (.str "make a")) (.cons (.lit (.str "make q from zz")) .nil)))))) .nil))) .nil)))) .nil)))
abbrev law_b0_s3 : S := (.ifs (.nt (.call 12 (.cons (.call 16 (.cons (.var 6) .nil)) (.cons (.tup (.cons (.bin .Add (.blt .len (.cons (.var 4) .nil)) (.lit (.int 1))) (.cons (.var 3) .nil))) .nil)))) law_b2 .nil)
def law_b0 : Ss := (.cons law_b0_s0 (.cons law_b0_s1 (.cons law_b0_s2 (.cons law_b0_s3 .nil))))
abbrev law_s0 : S := (.asg [1] false (.lstM (.cons (.call 9 (.cons (.var 0) (.cons (.lit (.int 0)) (.cons (.lit (.int 60)) .nil)))) (.cons (.lit (.int 0)) .nil))))
abbrev law_s1 : S := (.forS [2, 3] true (.e (.call0 17)) law_b0)
abbrev law_s2 : S := (.forS [6, 3] true (.e (.call 19 (.cons (.var 1) .nil))) law_b3)
abbrev law_s3 : S := (.ret (.lit (.bool true)))
def f_law : FD := ⟨1, 7, true, (.cons law_s0 (.cons law_s1 (.cons law_s2 (.cons law_s3 .nil))))⟩
def n_law : List Str := ["_law_script", "_law_box", "_law_line", "_law_reason", "_law_lines", "_law_turn", "_law_text"]
def tab : List FD := [f_is_name, f_check_ends, f_check_last, f_ancestors, f_words_of, f_parents_of, f_make_of, f_parse, f_law_cell, f_law_digits, f_law_draw, f_law_pick, f_law_same, f_law_word, f_law_history, f_law_above, f_law_told, f_law_wrong, f_law_head, f_law_wholes, f_law]
end Ev
-- classes: BreakError BadHistory BadAnswer ValueError
-- ocls: 

namespace Ev
open PySem
/-- a box of digits -/
def IsBox (o : Ob) : Prop := ∃ (ds : List Int) (k : Nat), o = .lst [.list (ds.map .int), .int k]

theorem cell_ok (n b : Nat) (h : Hq) (ns : List Int) (k : Nat) : ∃ v : Int, callN tab (n + 1) b 8 [.d (.list (ns.map .int)), .d (.int k)] h = .ok (.d (.int v)) h := by
  rw [call_of (fd := f_law_cell) _ _ rfl rfl]
  by_cases hk : k < ns.length
  · exact ⟨ns[k], by simp [f_law_cell, law_cell_b0, hk, atZ_nat]⟩
  · exact ⟨0, by simp [f_law_cell, law_cell_b0, hk, atZ_nat]⟩

theorem draw_ok (n b : Nat) {bx : Ob} (t : Hq) {m : Int} (hb : IsBox bx) (hm : 0 < m) : ∃ (v : Int) (bx' : Ob), 0 ≤ v ∧ v < m ∧ IsBox bx' ∧ callN tab (n + 1) b 10 [.l 0, .d (.int m)] (bx :: t) = .ok (.d (.int v)) (bx' :: t) := by
  obtain ⟨ds, k, rfl⟩ := hb
  rw [call_of (fd := f_law_draw) _ _ rfl rfl]
  by_cases hk : k < ds.length
  · refine ⟨ds[k].fmod m, .lst [.list (ds.map .int), .int ((k + 1 : Nat) : Int)], Int.fmod_nonneg_of_pos _ hm, Int.fmod_lt_of_pos _ hm, ⟨ds, k + 1, rfl⟩, ?_⟩
    simp [f_law_draw, law_draw_b0, hk, mod_i (Int.ne_of_gt hm), atZ_nat]
  · refine ⟨0, .lst [.list (ds.map .int), .int ((k + 1 : Nat) : Int)], Int.le_refl _, hm, ⟨ds, k + 1, rfl⟩, ?_⟩
    simp [f_law_draw, law_draw_b0, hk, mod_i (Int.ne_of_gt hm), atZ_nat]

def DgE (s : W) (h0 : Hq) (m : Nat) (env : Vars) (h : Hq) (c : Option W → Prop) (sd : Option W → Prop) : Prop :=
  ∃ x1 x2 x3 x4 ds, env = [some s, some (.d (.int 0)), some (.d (.int 60)), some (.l h0.length), x1, x2, x3, x4] ∧ c x2 ∧ sd x4 ∧ h = h0 ++ [.lst (List.map PyData.int ds)] ∧ ds.length ≤ m ∧ ∃ k : Int, x1 = some (.d (.int k))
def isI (o : Option W) : Prop := ∃ i : Int, o = some (.d (.int i))

theorem digits_turnA (b : Nat) (C : CallF) (s : W) (h0 : Hq) (m : Nat) (hm : m < 900000) (env : Vars) (h : Hq) (i : DgE s h0 m env h isI fun _ => True) (j : Int) : ∃ env' h', evSs b C law_digits_b3 (env.set 6 (some (.d (.int j)))) h = .ok (.nx env') h' ∧ DgE s h0 (m + 1) env' h' isI fun _ => True := by
  obtain ⟨x1, x2, x3, x4, ds, rfl, ⟨c, rfl⟩, -, rfl, hl, k, rfl⟩ := i
  by_cases hc : 0 < c
  · refine ⟨[some s, some (.d (.int 0)), some (.d (.int 60)), some (.l h0.length), some (.d (.int k)), some (.d (.int (c.fdiv 1000))), some (.d (.int j)), x4], h0 ++ [.lst (List.map PyData.int (ds ++ [c.fmod 1000]))], ?_, _, _, _, _, _, rfl, ⟨_, rfl⟩, trivial, rfl, by simp; omega, _, rfl⟩
    simp [law_digits_b3, law_digits_b4, hc, recvL_o last_at, app_o last_at (show (List.map PyData.int ds).length < 1000000 by simp; omega)]
  · refine ⟨[some s, some (.d (.int 0)), some (.d (.int 60)), some (.l h0.length), some (.d (.int k)), some (.d (.int c)), some (.d (.int j)), x4], h0 ++ [.lst (List.map PyData.int ds)], ?_, _, _, _, _, _, rfl, ⟨_, rfl⟩, trivial, rfl, by omega, _, rfl⟩
    simp [law_digits_b3, law_digits_b4, hc]

theorem digits_turnB (b : Nat) (C : CallF) (s : W) (h0 : Hq) (m : Nat) (hm : m < 900000) (env : Vars) (h : Hq) (i : DgE s h0 m env h isI isI) (j : Int) : ∃ env' h', evSs b C law_digits_b6 (env.set 6 (some (.d (.int j)))) h = .ok (.nx env') h' ∧ DgE s h0 (m + 1) env' h' isI isI := by
  obtain ⟨x1, x2, x3, x4, ds, rfl, ⟨c, rfl⟩, ⟨e, rfl⟩, rfl, hl, k, rfl⟩ := i
  refine ⟨[some s, some (.d (.int 0)), some (.d (.int 60)), some (.l h0.length), some (.d (.int k)), some (.d (.int c)), some (.d (.int j)), some (.d (.int ((e * 16807 + 7 * j + 1).fmod 2147483647)))], h0 ++ [.lst (List.map PyData.int (ds ++ [(((e * 16807 + 7 * j + 1).fmod 2147483647).fdiv 997).fmod 1000]))], ?_, _, _, _, _, _, rfl, ⟨_, rfl⟩, ⟨_, rfl⟩, rfl, by simp; omega, _, rfl⟩
  simp [law_digits_b6, recvL_o last_at, app_o last_at (show (List.map PyData.int ds).length < 1000000 by simp; omega)]

theorem digits_turn (b n : Nat) (ns : List Int) (h0 : Hq) (m : Nat) (hm : m < 800000) (env : Vars) (h : Hq) (i : ∃ x1 x2 x3 x4 ds, env = [some (.d (.list (ns.map .int))), some (.d (.int 0)), some (.d (.int 60)), some (.l h0.length), x1, x2, x3, x4] ∧ h = h0 ++ [.lst (List.map PyData.int ds)] ∧ ds.length ≤ m) (k : Nat) :
    ∃ env' h', evSs b (callN tab (n + 1)) law_digits_b0 (env.set 4 (some (.d (.int k)))) h = .ok (.nx env') h' ∧ ∃ x1 x2 x3 x4 ds, env' = [some (.d (.list (ns.map .int))), some (.d (.int 0)), some (.d (.int 60)), some (.l h0.length), x1, x2, x3, x4] ∧ h' = h0 ++ [.lst (List.map PyData.int ds)] ∧ ds.length ≤ m + 60 := by
  obtain ⟨x1, x2, x3, x4, ds, rfl, rfl, hl⟩ := i
  obtain ⟨v, hv⟩ := cell_ok n b (h0 ++ [.lst (List.map PyData.int ds)]) ns k
  -- the rest, by the cell's value made positive
  have rest : ∀ c : Int, ∃ env' h', evSs b (callN tab (n + 1)) (.cons (.ifs (.cmp .GtE (.var 5) (.bin .Pow (.lit (.int 10)) (.lit (.int 18)))) law_digits_b2 law_digits_b5) .nil) [some (.d (.list (ns.map .int))), some (.d (.int 0)), some (.d (.int 60)), some (.l h0.length), some (.d (.int k)), some (.d (.int c)), x3, x4] (h0 ++ [.lst (List.map PyData.int ds)]) = .ok (.nx env') h' ∧
      ∃ x1 x2 x3 x4 ds, env' = [some (.d (.list (ns.map .int))), some (.d (.int 0)), some (.d (.int 60)), some (.l h0.length), x1, x2, x3, x4] ∧ h' = h0 ++ [.lst (List.map PyData.int ds)] ∧ ds.length ≤ m + 60 := by
    intro c
    by_cases hc : (1000000000000000000 : Int) ≤ c
    · obtain ⟨env', h', e1, y1, y2, y3, y4, ds', rfl, -, -, rfl, hl', k', rfl⟩ := forGo_ok (f := fun w env h => match bindT [6] false w env with
        | some env => evSs b (callN tab (n + 1)) law_digits_b3 env h
        | none => .bad) (fun j env h => DgE (.d (.list (ns.map .int))) h0 (m + j) env h isI fun _ => True) (rangeUp 0 60) 0 [some (.d (.list (ns.map .int))), some (.d (.int 0)), some (.d (.int 60)), some (.l h0.length), some (.d (.int k)), some (.d (.int c)), x3, x4] (h0 ++ [.lst (List.map PyData.int ds)])
        ⟨_, _, _, _, ds, rfl, ⟨_, rfl⟩, trivial, rfl, by omega, _, rfl⟩ fun j w env h e i => by
          obtain ⟨rfl, hj⟩ := rangeUp_at e
          have := digits_turnA b (callN tab (n + 1)) _ h0 (m + (0 + j)) (by omega) env h i (0 + j)
          simpa [Nat.add_assoc] using this
      refine ⟨_, _, ?_, some (.d (.int k')), y2, y3, y4, ds', rfl, rfl, by simpa using hl'⟩
      simp [law_digits_b2, hc, s_for, rg_of]
      simp only [bind_1] at e1
      simp [e1]
    · obtain ⟨env', h', e1, y1, y2, y3, y4, ds', rfl, -, -, rfl, hl', k', rfl⟩ := forGo_ok (f := fun w env h => match bindT [6] false w env with
        | some env => evSs b (callN tab (n + 1)) law_digits_b6 env h
        | none => .bad) (fun j env h => DgE (.d (.list (ns.map .int))) h0 (m + j) env h isI isI) (rangeUp 0 12) 0 [some (.d (.list (ns.map .int))), some (.d (.int 0)), some (.d (.int 60)), some (.l h0.length), some (.d (.int k)), some (.d (.int c)), x3, some (.d (.int ((c * 48271 + k * 69621 + 11).fmod 2147483647)))] (h0 ++ [.lst (List.map PyData.int ds)])
        ⟨_, _, _, _, ds, rfl, ⟨_, rfl⟩, ⟨_, rfl⟩, rfl, by omega, _, rfl⟩ fun j w env h e i => by
          obtain ⟨rfl, hj⟩ := rangeUp_at e
          have := digits_turnB b (callN tab (n + 1)) _ h0 (m + (0 + j)) (by omega) env h i (0 + j)
          simpa [Nat.add_assoc] using this
      have hl2 : ds'.length ≤ m + 12 := by simpa using hl'
      refine ⟨_, _, ?_, some (.d (.int k')), y2, y3, y4, ds', rfl, rfl, by omega⟩
      have hd : decide ((1000000000000000000 : Int) ≤ c) = false := decide_eq_false hc
      simp only [s_cons, s_ifs, x_cmp, x_var, x_bin, x_lit, List.getElem?_cons_succ, List.getElem?_cons_zero, b_ok, op2_d, cmp_d, pow_18, liftO_s, ge_i, hd]
      clear hd hc
      simp [law_digits_b5, s_for, rg_of]
      simp only [bind_1] at e1
      simp [e1]
  by_cases hv0 : v < 0
  · obtain ⟨env', h', e1, e2⟩ := rest (1 - 2 * v)
    refine ⟨env', h', ?_, e2⟩
    rw [← e1]
    simp only [law_digits_b0, law_digits_b0_s0, law_digits_b0_s1, law_digits_b0_s2, law_digits_b1]
    simp [hv, hv0]
  · obtain ⟨env', h', e1, e2⟩ := rest v
    refine ⟨env', h', ?_, e2⟩
    rw [← e1]
    simp only [law_digits_b0, law_digits_b0_s0, law_digits_b0_s1, law_digits_b0_s2, law_digits_b1]
    simp [hv, hv0]

theorem digits_ok (n b : Nat) (h0 : Hq) (ns : List Int) : ∃ ds : List Int, callN tab (n + 2) b 9 [.d (.list (ns.map .int)), .d (.int 0), .d (.int 60)] h0 = .ok (.d (.list (ds.map .int))) h0 := by
  rw [call_of (fd := f_law_digits) _ _ rfl rfl]
  obtain ⟨env', h', e1, y1, y2, y3, y4, ds', rfl, rfl, -⟩ := forGo_ok (f := fun w env h => match bindT [4] false w env with
        | some env => evSs h0.length (callN tab (n + 1)) law_digits_b0 env h
        | none => .bad) (fun j env h => ∃ x1 x2 x3 x4 ds, env = [some (.d (.list (ns.map .int))), some (.d (.int 0)), some (.d (.int 60)), some (.l h0.length), x1, x2, x3, x4] ∧ h = h0 ++ [.lst (List.map PyData.int ds)] ∧ ds.length ≤ j * 60) (rangeUp 0 60) 0 
        [some (.d (.list (ns.map .int))), some (.d (.int 0)), some (.d (.int 60)), some (.l h0.length), none, none, none, none] (h0 ++ [.lst []])
        ⟨_, _, _, _, [], rfl, rfl, by simp⟩ fun j w env h e i => by
          obtain ⟨rfl, hj⟩ := rangeUp_at e
          have := digits_turn h0.length n ns h0 ((0 + j) * 60) (by omega) env h i j
          simpa [Nat.add_mul] using this
  refine ⟨ds', ?_⟩
  simp [f_law_digits, s_for, rg_of]
  simp only [bind_1] at e1
  simp [e1, evFrz]

end Ev

namespace Ev
open PySem
theorem pick_ok (n b : Nat) {bx : Ob} (t : Hq) (xs : List PyData) (hb : IsBox bx) (hx : xs ≠ []) : ∃ x ∈ xs, ∃ bx', IsBox bx' ∧ callN tab (n + 2) b 11 [.l 0, .d (.list xs)] (bx :: t) = .ok (.d x) (bx' :: t) := by
  obtain ⟨v, bx', v0, v1, hb', e⟩ := draw_ok n b t hb (m := 900) (by decide)
  have hl : (0 : Int) < xs.length := by
    have := List.length_pos_iff.mpr hx
    omega
  have q0 := Int.fmod_nonneg_of_pos v hl
  have q1 := Int.fmod_lt_of_pos v hl
  have q2 : (v.fmod xs.length).toNat < xs.length := by omega
  refine ⟨xs[(v.fmod xs.length).toNat], List.getElem_mem _, bx', hb', ?_⟩
  rw [call_of (fd := f_law_pick) _ _ rfl rfl]
  simp [f_law_pick, e, mod_i (Int.ne_of_gt hl), atZ_int q0, q2]

end Ev

namespace Ev
open PySem
theorem same_ok (n b : Nat) (h : Hq) {d : PyData} {k j : Nat} (s : Sm k j d) (hk : k ≤ 16777216 := by omega) (hj : j ≤ 150 := by omega) : callN tab (n + 1) b 12 [.d d, .d d] h = .ok (.d (.bool true)) h := by
  rw [call_of (fd := f_law_same) _ _ rfl rfl]
  simp [f_law_same, repr_d s hk hj]
theorem same_of (n b : Nat) (h : Hq) {d d' : PyData} {k j : Nat} (s : Sm k j d) (e : d = d') (hk : k ≤ 16777216 := by omega) (hj : j ≤ 150 := by omega) : callN tab (n + 1) b 12 [.d d, .d d'] h = .ok (.d (.bool true)) h := by
  subst e
  exact same_ok n b h s hk hj
end Ev

namespace Ev
open PySem
structure Par (k : Int) (l : List Int) : Prop where
  rg : ∀ x ∈ l, 0 ≤ x ∧ x < k
  pw : l.Pairwise (· < ·)
theorem Par.sub {k : Int} {l l' : List Int} (p : Par k l) (s : l'.Sublist l) : Par k l' := ⟨fun x hx => p.rg x (s.subset hx), p.pw.sublist s⟩

def rowD (r : Str × List Int) : PyData := .tuple [.str r.1, .tuple (r.2.map .int)]
def histD (rows : List (Str × List Int)) : PyData := .tuple [.str "history", .tuple (rows.map rowD)]
structure Rows (rows : List (Str × List Int)) : Prop where
  par : ∀ (k : Nat) r, rows[k]? = some r → Par k r.2
theorem Rows.snoc {rows : List (Str × List Int)} {r : Str × List Int} (h : Rows rows) (p : Par rows.length r.2) : Rows (rows ++ [r]) := ⟨fun k q e => by
  by_cases hk : k < rows.length
  · rw [List.getElem?_append_left hk] at e; exact h.par k q e
  · rw [List.getElem?_append_right (by omega)] at e
    by_cases hk2 : k - rows.length = 0
    · rw [hk2] at e; cases e
      have : k = rows.length := by omega
      subst this; exact p
    · rw [List.getElem?_eq_none (by simp; omega)] at e; cases e⟩

theorem par_len : ∀ {k : Nat} {l : List Int}, Par k l → l.length ≤ k := by
  intro k
  induction k with
  | zero =>
    intro l p
    cases l with
    | nil => simp
    | cons x l => have := p.rg x List.mem_cons_self; omega
  | succ k ih =>
    intro l p
    have q : Par k (l.filter fun x : Int => decide (x < (k : Int))) := ⟨fun x hx => by
      have h1 := p.rg x (List.mem_filter.mp hx).1
      have h2 := (List.mem_filter.mp hx).2
      simp only [decide_eq_true_eq] at h2
      exact ⟨h1.1, h2⟩, p.pw.sublist List.filter_sublist⟩
    have r := ih q
    have w : ∀ {l : List Int}, l.Pairwise (· < ·) → (∀ x ∈ l, x ≤ (k : Int)) → l.length ≤ (l.filter fun x : Int => decide (x < (k : Int))).length + 1 := by
      intro l
      induction l with
      | nil => intro _ _; simp
      | cons x l ih =>
        intro pw hx
        rw [List.pairwise_cons] at pw
        by_cases hk : x < k
        · have hf : List.filter (fun x : Int => decide (x < (k : Int))) (x :: l) = x :: List.filter (fun x : Int => decide (x < (k : Int))) l := by simp [List.filter_cons, hk]
          rw [hf]
          have := ih pw.2 fun y hy => hx y (List.mem_cons_of_mem _ hy)
          simp only [List.length_cons]
          omega
        · have e : x = k := by have := hx x List.mem_cons_self; omega
          have nl : l = [] := by
            cases l with
            | nil => rfl
            | cons y l =>
              have h1 := pw.1 y List.mem_cons_self
              have h2 := hx y (by simp)
              omega
          subst nl
          simp
    have := w p.pw fun x hx => by have := p.rg x hx; omega
    omega

end Ev

namespace Ev
open PySem
/-- a history as this law makes it -/
structure Hst (rows : List (Str × List Int)) : Prop where
  ne : rows ≠ []
  R : Rows rows
  l4 : ∀ (k : Nat) r, rows[k]? = some r → r.2.length ≤ 4
  last : ∀ k : Nat, k + 1 < rows.length → ∃ (c : Nat) (r : Str × List Int), k < c ∧ rows[c]? = some r ∧ (k : Int) ∈ r.2

/-! names -/
def chr (s : Str) (k : Nat) : Str := ⟨#[s.cps.toList.getD k 0]⟩
def alpha : Str := "abcdefghijklmnopqrstuvwxyz"
def sfx (k : Nat) : Str := if k = 0 then "" else if k = 1 then "x" else "zzzzzzz"
def wrd (k a : Nat) : Str := if k = 1 ∧ a = 3 then "from" else if k = 0 ∧ a = 5 then "make" else chr alpha ((a + k) % 26) ++ sfx (a % 3)
theorem idx_str {h : Hq} {s : Str} {k : Nat} (hs : s.length ≤ SZ) (hk : k < s.cps.toList.length) : evIdx h (.d (.str s)) (.d (.int k)) = .ok (.d (.str (chr s k))) h := by
  simp only [evIdx, if_pos hs, atZ_nat, List.getElem?_eq_getElem hk, chr]
  congr
  rw [List.getD_eq_getElem?_getD, List.getElem?_eq_getElem hk]
  rfl
theorem fmod_nat (a b : Nat) : (a : Int).fmod b = ((a % b : Nat) : Int) := by
  rw [Int.fmod_eq_emod_of_nonneg _ (by omega)]
  exact_mod_cast rfl
theorem word_ok (n b : Nat) (w0 : W) (h : Hq) {k a : Nat} : callN tab (n + 1) b 13 [w0, .d (.int k), .d (.int a)] h = .ok (.d (.str (wrd k a))) h := by
  rw [call_of (fd := f_law_word) _ _ rfl rfl]
  have m3 : a % 3 = 0 ∨ a % 3 = 1 ∨ a % 3 = 2 := by omega
  obtain ⟨r, hr⟩ : ∃ r, (a + k) % 26 = r := ⟨_, rfl⟩
  have hx : ∀ h : Hq, evIdx h (.d (.str "abcdefghijklmnopqrstuvwxyz")) (.d (.int r)) = .ok (.d (.str (chr alpha r))) h := fun h => idx_str (by decide +kernel) (by
    have : ("abcdefghijklmnopqrstuvwxyz" : Str).cps.toList.length = 26 := by decide +kernel
    omega)
  have e1 : ((a : Int) + (k : Int)).fmod 26 = (r : Int) := by rw [← hr, show (a : Int) + (k : Int) = ((a + k : Nat) : Int) by omega]; exact fmod_nat _ 26
  have e2 : (a : Int).fmod 3 = (a % 3 : Nat) := fmod_nat _ 3
  have l1 : ∀ m, (chr alpha m).length = 1 := fun m => rfl
  have ad : ∀ k m, (chr alpha m).length + (sfx k).length ≤ 1000000 := fun k m => by
    rw [l1]
    have : ∀ k, (sfx k).length ≤ 7 := fun k => by
      unfold sfx
      split
      · decide +kernel
      · split <;> decide +kernel
    have := this k
    omega
  have tail : evSs b (callN tab n) (.cons (.ret (.bin .Add (.idx (.lit (.str "abcdefghijklmnopqrstuvwxyz")) (.bin .Mod (.blt .int (.cons (.bin .Add (.var 2) (.var 1)) .nil)) (.lit (.int 26)))) (.idx (.lst (.cons (.lit (.str "")) (.cons (.lit (.str "x")) (.cons (.lit (.str "zzzzzzz")) .nil)))) (.bin .Mod (.blt .int (.cons (.var 2) .nil)) (.lit (.int 3)))))) .nil) [some w0, some (.d (.int k)), some (.d (.int a))] h
      = .ok (.rt (.d (.str (chr alpha r ++ sfx (a % 3))))) h := by
    rcases m3 with m3 | m3 | m3 <;> rw [m3] at e2
    · have := ad 0 r
      simp [e1, e2, hx, m3, sfx]
      rw [add_s (by simpa [sfx] using this)]
      simp
    · have := ad 1 r
      simp [e1, e2, hx, m3, sfx]
      rw [add_s (by simpa [sfx] using this)]
      simp
    · have := ad 2 r
      simp [e1, e2, hx, m3, sfx]
      rw [add_s (by simpa [sfx] using this)]
      simp
  by_cases h1 : k = 1 ∧ a = 3
  · obtain ⟨rfl, rfl⟩ := h1
    simp [f_law_word, law_word_b0, wrd]
  · by_cases h2 : k = 0 ∧ a = 5
    · obtain ⟨rfl, rfl⟩ := h2
      simp [f_law_word, law_word_b0, law_word_b1, wrd]
    · unfold wrd
      rw [if_neg h1, if_neg h2, hr]
      have q1 : (decide ((k : Int) = 1) && decide ((a : Int) = 3)) = false := by
        rw [Bool.and_eq_false_iff, decide_eq_false_iff_not, decide_eq_false_iff_not]
        omega
      have q2 : (decide ((k : Int) = 0) && decide ((a : Int) = 5)) = false := by
        rw [Bool.and_eq_false_iff, decide_eq_false_iff_not, decide_eq_false_iff_not]
        omega
      have c1 : evE b (callN tab n) (.and (.cmp .Eq (.var 1) (.lit (.int 1))) (.one (.cmp .Eq (.var 2) (.lit (.int 3))))) [some w0, some (.d (.int k)), some (.d (.int a))] h = .ok (.d (.bool false)) h := by
        by_cases z : (k : Int) = 1
        · have : ¬ (a : Int) = 3 := fun y => by simp [z, y] at q1
          simp [z, this]
        · simp [z]
      have c2 : evE b (callN tab n) (.and (.cmp .Eq (.var 1) (.lit (.int 0))) (.one (.cmp .Eq (.var 2) (.lit (.int 5))))) [some w0, some (.d (.int k)), some (.d (.int a))] h = .ok (.d (.bool false)) h := by
        by_cases z : (k : Int) = 0
        · have : ¬ (a : Int) = 5 := fun y => by simp [z, y] at q2
          simp [z, this]
        · have z' : ¬ k = 0 := by omega
          simp [z']
      show finR false h.length (evSs b (callN tab n) f_law_word.body [some w0, some (.d (.int k)), some (.d (.int a))] h) = _
      have t1 : ∀ (s : S) (ss : Ss), evS b (callN tab n) s [some w0, some (.d (.int k)), some (.d (.int a))] h = .ok (.nx [some w0, some (.d (.int k)), some (.d (.int a))]) h → evSs b (callN tab n) (.cons s ss) [some w0, some (.d (.int k)), some (.d (.int a))] h = evSs b (callN tab n) ss [some w0, some (.d (.int k)), some (.d (.int a))] h := fun s ss e => by simp only [s_cons, e, b_ok]
      unfold f_law_word
      simp only
      rw [t1 _ _ (by simp only [s_ifs, c1, b_ok, s_nil]), t1 _ _ (by simp only [s_ifs, c2, b_ok, s_nil]), tail]
      simp

/-! the rows of parents, as lists that change -/
def lo (l : List Int) : Ob := .lst (l.map .int)
def HH (bx : Ob) (t : Hq) (L : List (List Int)) : Hq := bx :: (t ++ (L.map lo ++ [.lsw ((List.range L.length).map fun i => .l (t.length + 1 + i))]))
section
variable {bx : Ob} {t : Hq} {L : List (List Int)}
theorem hh_at {i : Nat} {l : List Int} (e : L[i]? = some l) : (HH bx t L)[t.length + 1 + i]? = some (lo l) := by
  obtain ⟨hi, _⟩ := List.getElem?_eq_some_iff.mp e
  unfold HH
  rw [show t.length + 1 + i = (t.length + i) + 1 by omega, List.getElem?_cons_succ, List.getElem?_append_right (by omega), List.getElem?_append_left (by simp; omega), show t.length + i - t.length = i by omega, List.getElem?_map, e]
  rfl
theorem hh_top : (HH bx t L)[t.length + 1 + L.length]? = some (.lsw ((List.range L.length).map fun i => .l (t.length + 1 + i))) := by
  unfold HH
  rw [show t.length + 1 + L.length = (t.length + L.length) + 1 by omega, List.getElem?_cons_succ, List.getElem?_append_right (by omega), List.getElem?_append_right (by simp)]
  simp
theorem hh_set {i : Nat} (hi : i < L.length) (l : List Int) : (HH bx t L).set (t.length + 1 + i) (lo l) = HH bx t (L.set i l) := by
  unfold HH
  rw [show t.length + 1 + i = (t.length + i) + 1 by omega, List.set_cons_succ, List.set_append_right _ _ (by omega), List.set_append_left _ _ (by rw [List.length_map]; omega), show t.length + i - t.length = i by omega, List.map_set]
  simp
theorem hh_idx {c : Nat} (hc : c < L.length) : evIdx (HH bx t L) (.l (t.length + 1 + L.length)) (.d (.int c)) = .ok (.l (t.length + 1 + c)) (HH bx t L) := by
  simp only [evIdx, hh_top, atZ_nat]
  simp [hc]
theorem lc_new {f : W → Hq → R (Option W)} {o : Ob} : ∀ (ws : List W) (h : Hq), (∀ w h, f w h = .ok (some (.l h.length)) (h ++ [o])) → lcGo f ws h = .ok ((List.range ws.length).map fun i => .l (h.length + i)) (h ++ List.replicate ws.length o)
  | [], h, _ => by simp [lcGo]
  | w :: ws, h, e => by
    simp only [lcGo, e, b_ok, lc_new ws (h ++ [o]) e]
    congr 1
    · rw [List.length_cons, List.range_succ_eq_map]
      simp only [List.map_cons, List.map_map, Nat.add_zero, List.length_append, List.length_cons, List.length_nil]
      congr 1
      apply List.map_congr_left
      intro i _
      simp only [Function.comp]
      congr 1
      omega
    · simp [List.replicate_succ]
end
/-- behind k turns -/
structure PL (n k : Nat) (two : Bool) (L : List (List Int)) : Prop where
  len : L.length = n
  rg : ∀ (c : Nat) (l : List Int), L[c]? = some l → ∀ x ∈ l, 0 ≤ x ∧ x < c ∧ (two = false → x < k)
  nd : ∀ (c : Nat) (l : List Int), L[c]? = some l → l.Nodup
  sz : ∀ (c : Nat) (l : List Int), L[c]? = some l → l.length ≤ if two then 4 else if c ≤ k then 3 else 2
  all : ∀ j : Nat, j < k → ∃ (c : Nat) (l : List Int), j < c ∧ L[c]? = some l ∧ (j : Int) ∈ l
theorem PL.put {n k : Nat} {two : Bool} {L : List (List Int)} (p : PL n k two L) {c : Nat} {l : List Int} (e : L[c]? = some l) {x : Int} (hx : 0 ≤ x) (hxc : x < c) (hn : x ∉ l) {k' : Nat} (hk : k ≤ k') (hz : l.length + 1 ≤ if two then 4 else if c ≤ k' then 3 else 2) (hxk : two = false → x < k') (hall : ∀ j : Nat, j < k' → j < k ∨ (j : Int) = x) : PL n k' two (L.set c (l ++ [x])) := by
  obtain ⟨hc, _⟩ := List.getElem?_eq_some_iff.mp e
  have at_ : ∀ d m, (L.set c (l ++ [x]))[d]? = some m → (d = c ∧ m = l ++ [x]) ∨ (d ≠ c ∧ L[d]? = some m) := fun d m h => by
    by_cases hd : d = c
    · subst hd
      rw [List.getElem?_set_self hc] at h
      exact .inl ⟨rfl, (Option.some.inj h).symm⟩
    · rw [List.getElem?_set_ne (Ne.symm hd)] at h
      exact .inr ⟨hd, h⟩
  refine ⟨by rw [List.length_set, p.len], fun d m h y hy => ?_, fun d m h => ?_, fun d m h => ?_, fun j hj => ?_⟩
  · rcases at_ d m h with ⟨rfl, rfl⟩ | ⟨_, h⟩
    · rcases List.mem_append.mp hy with hy | hy
      · have := p.rg _ _ e y hy
        exact ⟨this.1, this.2.1, fun z => by have := this.2.2 z; omega⟩
      · simp only [List.mem_singleton] at hy
        subst hy
        exact ⟨hx, hxc, hxk⟩
    · have := p.rg _ _ h y hy
      exact ⟨this.1, this.2.1, fun z => by have := this.2.2 z; omega⟩
  · rcases at_ d m h with ⟨rfl, rfl⟩ | ⟨_, h⟩
    · rw [List.nodup_append]
      refine ⟨p.nd _ _ e, by simp, fun a ha b hb => ?_⟩
      simp only [List.mem_singleton] at hb
      subst hb
      exact fun z => hn (z ▸ ha)
    · exact p.nd _ _ h
  · rcases at_ d m h with ⟨rfl, rfl⟩ | ⟨_, h⟩
    · rw [List.length_append]; simpa using hz
    · have := p.sz _ _ h
      cases two
      · simp only [Bool.false_eq_true, if_false] at this ⊢
        split at this <;> split <;> omega
      · simpa using this
  · rcases hall j hj with h | h
    · obtain ⟨d, m, h1, h2, h3⟩ := p.all j h
      by_cases hd : d = c
      · subst hd
        rw [e] at h2
        cases h2
        exact ⟨d, _, h1, List.getElem?_set_self hc, List.mem_append_left _ h3⟩
      · exact ⟨d, m, h1, by rw [List.getElem?_set_ne (Ne.symm hd)]; exact h2, h3⟩
    · refine ⟨c, _, by omega, List.getElem?_set_self hc, ?_⟩
      rw [h]
      simp
def HE (most : Int) (n : Nat) (t : Hq) (k : Nat) (two : Bool) (env : Vars) (h : Hq) : Prop :=
  ∃ bx L x4 x5 x6 x7 x8, IsBox bx ∧ PL n k two L ∧ env = [some (.l 0), some (.d (.int most)), some (.d (.int n)), some (.l (t.length + 1 + n)), x4, x5, x6, x7, x8] ∧ h = HH bx t L

theorem hist_a (n b : Nat) {most : Int} {m : Nat} {t : Hq} {k : Nat} (hk : k + 1 < m) (hm : m ≤ 24) {env : Vars} {h : Hq} (i : HE most m t k false env h) :
    ∃ env' h', evSs b (callN tab (n + 2)) law_history_b0 (env.set 4 (some (.d (.int k)))) h = .ok (.nx env') h' ∧ HE most m t (k + 1) false env' h' := by
  obtain ⟨bx, L, x4, x5, x6, x7, x8, hb, p, rfl, rfl⟩ := i
  have hL := p.len
  obtain ⟨v, bx1, v0, v1, hb1, e1⟩ := draw_ok (n + 1) b (t ++ (L.map lo ++ [.lsw ((List.range L.length).map fun i => .l (t.length + 1 + i))])) hb (m := (m : Int) - 1 - k) (by omega)
  obtain ⟨u, bx2, u0, u1, hb2, e2⟩ := draw_ok (n + 1) b (t ++ (L.map lo ++ [.lsw ((List.range L.length).map fun i => .l (t.length + 1 + i))])) hb1 (m := 2) (by decide)
  have fin : ∀ {c : Nat}, k < c → c < m → ∃ env' h', evSs b (callN tab (n + 2)) (.cons (.ifs (.cmp .GtE (.blt .len (.cons (.idx (.var 3) (.var 5)) .nil)) (.lit (.int 2))) law_history_b1 .nil) (.cons (.app (.idx (.var 3) (.var 5)) (.var 4)) .nil)) [some (.l 0), some (.d (.int most)), some (.d (.int m)), some (.l (t.length + 1 + m)), some (.d (.int k)), some (.d (.int c)), x6, x7, x8] (HH bx2 t L) = .ok (.nx env') h' ∧ HE most m t (k + 1) false env' h' := by
    intro c hc1 hc2
    have app : ∀ {c : Nat} {l : List Int}, k < c → c < m → L[c]? = some l → (l.length + 1 ≤ if c ≤ k + 1 then 3 else 2) → ∃ env' h', evSs b (callN tab (n + 2)) (.cons (.app (.idx (.var 3) (.var 5)) (.var 4)) .nil) [some (.l 0), some (.d (.int most)), some (.d (.int m)), some (.l (t.length + 1 + m)), some (.d (.int k)), some (.d (.int c)), x6, x7, x8] (HH bx2 t L) = .ok (.nx env') h' ∧ HE most m t (k + 1) false env' h' := by
      intro c l h1 h2 el hz
      have hi : evIdx (HH bx2 t L) (.l (t.length + 1 + m)) (.d (.int c)) = .ok (.l (t.length + 1 + c)) (HH bx2 t L) := by rw [← hL]; exact hh_idx (by omega)
      have ha := hh_at (bx := bx2) (t := t) el
      refine ⟨_, _, ?_, bx2, L.set c (l ++ [(k : Int)]), some (.d (.int k)), some (.d (.int c)), x6, x7, x8, hb2, p.put el (by omega) (by omega) (fun z => by have := (p.rg _ _ el _ z).2.2 rfl; omega) (by omega) (by simpa using hz) (fun _ => by omega) (fun j hj => by omega), rfl, rfl⟩
      have h4 : (l.map PyData.int).length < 1000000 := by rw [List.length_map]; split at hz <;> omega
      simp [hi, recvL_o ha, app_o ha h4]
      rw [← hh_set (by omega)]
      simp [lo]
    obtain ⟨l, el⟩ : ∃ l, L[c]? = some l := ⟨L[c]'(by omega), List.getElem?_eq_getElem _⟩
    have hi : evIdx (HH bx2 t L) (.l (t.length + 1 + m)) (.d (.int c)) = .ok (.l (t.length + 1 + c)) (HH bx2 t L) := by rw [← hL]; exact hh_idx (by omega)
    have ha := hh_at (bx := bx2) (t := t) el
    by_cases h2 : 2 ≤ l.length
    · obtain ⟨l', el'⟩ : ∃ l, L[k + 1]? = some l := ⟨L[k + 1]'(by omega), List.getElem?_eq_getElem _⟩
      obtain ⟨env', h', e, q⟩ := app (c := k + 1) (by omega) (by omega) el' (by
        have := p.sz _ _ el'
        simp only [Bool.false_eq_true, if_false] at this
        rw [if_pos (by omega)]
        rw [if_neg (by omega)] at this
        omega)
      refine ⟨env', h', ?_, q⟩
      have h2' : (2 : Int) ≤ (l.length : Int) := by omega
      rw [← e]
      simp [hi, len_o ha, h2, h2', law_history_b1]
    · obtain ⟨env', h', e, q⟩ := app hc1 hc2 el (by
        split
        · omega
        · omega)
      refine ⟨env', h', ?_, q⟩
      have h2' : ¬ (2 : Int) ≤ (l.length : Int) := by omega
      rw [← e]
      simp [hi, len_o ha, h2, h2']
  by_cases hu : u = 0
  · obtain ⟨w, hw⟩ : ∃ w : Nat, v = (w : Int) := ⟨v.toNat, by omega⟩
    subst hw
    obtain ⟨env', h', e, q⟩ := fin (c := k + 1 + w) (by omega) (by omega)
    refine ⟨env', h', ?_, q⟩
    rw [← e]
    unfold HH law_history_b0
    simp [e1, e2, hu]
  · obtain ⟨env', h', e, q⟩ := fin (c := k + 1) (by omega) (by omega)
    refine ⟨env', h', ?_, q⟩
    rw [← e]
    unfold HH law_history_b0
    simp [e1, e2, hu]

theorem hist_b (n b : Nat) {most : Int} {m : Nat} {t : Hq} {k : Nat} (h1 : 1 < m) (hm : m ≤ 24) {env : Vars} {h : Hq} (i : HE most m t (m - 1) true env h) (k0 : Int) :
    ∃ env' h', evSs b (callN tab (n + 2)) law_history_b2 (env.set 6 (some (.d (.int k0)))) h = .ok (.nx env') h' ∧ HE most m t (m - 1) true env' h' := by
  obtain ⟨bx, L, x4, x5, x6, x7, x8, hb, p, rfl, rfl⟩ := i
  have hL := p.len
  obtain ⟨v, bx1, v0, v1, hb1, e1⟩ := draw_ok (n + 1) b (t ++ (L.map lo ++ [.lsw ((List.range L.length).map fun i => .l (t.length + 1 + i))])) hb (m := (m : Int) - 1) (by omega)
  obtain ⟨w, hw⟩ : ∃ w : Nat, v = (w : Int) := ⟨v.toNat, by omega⟩
  subst hw
  obtain ⟨u, bx2, u0, u1, hb2, e2⟩ := draw_ok (n + 1) b (t ++ (L.map lo ++ [.lsw ((List.range L.length).map fun i => .l (t.length + 1 + i))])) hb1 (m := 1 + (w : Int)) (by omega)
  obtain ⟨l, el⟩ : ∃ l, L[1 + w]? = some l := ⟨L[1 + w]'(by omega), List.getElem?_eq_getElem _⟩
  have hi : evIdx (HH bx2 t L) (.l (t.length + 1 + m)) (.d (.int (1 + (w : Int)))) = .ok (.l (t.length + 1 + (1 + w))) (HH bx2 t L) := by
    rw [← hL, show (1 + (w : Int)) = ((1 + w : Nat) : Int) by omega]; exact hh_idx (by omega)
  have ha := hh_at (bx := bx2) (t := t) el
  have h4 : (l.map PyData.int).length < 1000000 := by
    have := p.sz _ _ el
    rw [List.length_map]
    simp at this
    omega
  have st : ∀ {env' : Vars} {h' : Hq}, evSs b (callN tab (n + 2)) (.cons (.ifs (.and (.cmp .NotIn (.var 7) (.idx (.var 3) (.var 5))) (.one (.cmp .Lt (.blt .len (.cons (.idx (.var 3) (.var 5)) .nil)) (.lit (.int 4))))) law_history_b3 .nil) .nil) [some (.l 0), some (.d (.int most)), some (.d (.int m)), some (.l (t.length + 1 + m)), x4, some (.d (.int (1 + (w : Int)))), some (.d (.int k0)), some (.d (.int u)), x8] (HH bx2 t L) = .ok (.nx env') h' →
      evSs b (callN tab (n + 2)) law_history_b2 [some (.l 0), some (.d (.int most)), some (.d (.int m)), some (.l (t.length + 1 + m)), x4, x5, some (.d (.int k0)), x7, x8] (HH bx t L) = .ok (.nx env') h' := fun {env' h'} e => by
    rw [← e]
    unfold HH law_history_b2
    simp [e1, e2]
  have c1 : cmpW .NotIn (.d (.int u)) (.l (t.length + 1 + (1 + w))) (HH bx2 t L) = .ok (.d (.bool (!decide (u ∈ l)))) (HH bx2 t L) := by
    rw [cmp_dl ha, nin_l dpt_i, any_int]; rfl
  by_cases hu : u ∈ l
  · exact ⟨_, _, st (by simp [hi, c1, hu]), bx2, L, x4, some (.d (.int (1 + (w : Int)))), some (.d (.int k0)), some (.d (.int u)), x8, hb2, p, rfl, rfl⟩
  · by_cases hl : l.length < 4
    · have hl' : (l.length : Int) < 4 := by omega
      refine ⟨_, _, st (by
        simp [hi, c1, hu, len_o ha, hl', law_history_b3, recvL_o ha, app_o ha h4]
        rfl), bx2, L.set (1 + w) (l ++ [u]), x4, some (.d (.int (1 + (w : Int)))), some (.d (.int k0)), some (.d (.int u)), x8, hb2, p.put el u0 (by omega) hu (Nat.le_refl _) (by simp; omega) (fun z => by cases z) (fun j hj => .inl hj), rfl, ?_⟩
      rw [← hh_set (by omega)]
      simp [lo]
    · have hl' : ¬ (l.length : Int) < 4 := by omega
      exact ⟨_, _, st (by simp [hi, c1, hu, len_o ha, hl']), bx2, L, x4, some (.d (.int (1 + (w : Int)))), some (.d (.int k0)), some (.d (.int u)), x8, hb2, p, rfl, rfl⟩
def rowA (at_ : Nat) (k : Nat) (l : List Int) : Str × List Int := (wrd k at_, sortI l)
def rowsA (at_ : Nat) (L : List (List Int)) : List (Str × List Int) := (List.range L.length).map fun k => rowA at_ k (L[k]?.getD [])
theorem rowsA_at {at_ : Nat} {L : List (List Int)} {k : Nat} {r : Str × List Int} (e : (rowsA at_ L)[k]? = some r) : ∃ l, L[k]? = some l ∧ r = rowA at_ k l := by
  unfold rowsA at e
  rw [List.getElem?_map] at e
  obtain ⟨j, ej, rfl⟩ := Option.map_eq_some_iff.mp e
  obtain ⟨hj, ej⟩ := List.getElem?_eq_some_iff.mp ej
  rw [List.getElem_range] at ej
  subst ej
  rw [List.length_range] at hj
  exact ⟨L[k], List.getElem?_eq_getElem hj, by rw [List.getElem?_eq_getElem hj]; rfl⟩
theorem rows_hst {at_ m : Nat} {L : List (List Int)} (p : PL m (m - 1) true L) (hm : 0 < m) : Hst (rowsA at_ L) := by
  have hL := p.len
  refine ⟨fun z => ?_, ⟨fun k r e => ?_⟩, fun k r e => ?_, fun k hk => ?_⟩
  · have := congrArg List.length z
    simp only [rowsA, List.length_map, List.length_range, List.length_nil] at this
    omega
  · obtain ⟨l, el, rfl⟩ := rowsA_at e
    refine ⟨fun x hx => ?_, ?_⟩
    · have := p.rg _ _ el x (mem_sortI.mp hx)
      exact ⟨this.1, this.2.1⟩
    · have h1 := sortI_pw l
      have h2 : (sortI l).Nodup := (sortI_perm l).nodup_iff.mpr (p.nd _ _ el)
      exact (List.pairwise_and_iff.mpr ⟨h1, h2⟩).imp fun h => by omega
  · obtain ⟨l, el, rfl⟩ := rowsA_at e
    have := p.sz _ _ el
    show (sortI l).length ≤ 4
    rw [(sortI_perm l).length_eq]
    simpa using this
  · have hk' : k < m - 1 := by simp [rowsA] at hk; omega
    obtain ⟨c, l, h1, h2, h3⟩ := p.all k hk'
    obtain ⟨hc, _⟩ := List.getElem?_eq_some_iff.mp h2
    refine ⟨c, rowA at_ c l, h1, ?_, mem_sortI.mpr h3⟩
    unfold rowsA
    rw [List.getElem?_map, List.getElem?_range hc]
    simp [h2]
theorem hist_end (n b : Nat) {most : Int} {m : Nat} {t : Hq} (hm : m ≤ 24) {bx : Ob} {L : List (List Int)} {at_ : Nat} {x4 x5 x6 x7 : Option W} (p : PL m (m - 1) true L) :
    evS b (callN tab (n + 2)) law_history_s5
      [some (.l 0), some (.d (.int most)), some (.d (.int m)), some (.l (t.length + 1 + m)), x4, x5, x6, x7, some (.d (.int at_))] (HH bx t L) = .ok (.rt (.d (histD (rowsA at_ L)))) (HH bx t L) := by
  have hL := p.len
  simp [rg_nat (n := m) (by omega)]
  rw [rangeUp_nat, lc_map (g := fun k => W.d (rowD (rowA at_ k (L[k]?.getD []))))]
  · simp [histD, rowsA, hL]
  · intro k hk
    have hk := List.mem_range.mp hk
    obtain ⟨l, el⟩ : ∃ l, L[k]? = some l := ⟨L[k]'(by omega), List.getElem?_eq_getElem _⟩
    have hi : evIdx (HH bx t L) (.l (t.length + 1 + m)) (.d (.int k)) = .ok (.l (t.length + 1 + k)) (HH bx t L) := by rw [← hL]; exact hh_idx (by omega)
    have ha : (HH bx t L)[t.length + 1 + k]? = some (.lst (l.map .int)) := hh_at (bx := bx) (t := t) el
    simp [word_ok, hi, sorted_o ha, el, rowD, rowA]

theorem history_nm (n b : Nat) {bx : Ob} (t : Hq) {most : Int} (hb : IsBox bx) (h0 : 0 < most) (h1 : most < 24) : ∃ rows bx' at_, Hst rows ∧ (rows.length : Int) ≤ most ∧ IsBox bx' ∧ at_ < 12 ∧ (∀ (k : Nat) r, rows[k]? = some r → r.1 = wrd k at_) ∧ callN tab (n + 3) b 14 [.l 0, .d (.int most)] (bx :: t) = .ok (.d (histD rows)) (bx' :: t) := by
  rw [call_of (fd := f_law_history) _ _ rfl rfl]
  obtain ⟨v, bx1, v0, v1, hb1, e⟩ := draw_ok (n + 1) (t.length + 1) t hb h0
  obtain ⟨m, hm⟩ : ∃ m : Nat, 1 + v = (m : Int) := ⟨(1 + v).toNat, by omega⟩
  have m0 : 0 < m := by omega
  have m24 : m ≤ 24 := by omega
  -- the lists of parents
  have hnew := lc_new (f := fun w h => .ok (some (.l h.length)) (h ++ [.lst []])) (o := .lst []) (rangeUp 0 m) (bx1 :: t) (fun w h => rfl)
  have hrl : (rangeUp 0 (m : Int)).length = m := by rw [rangeUp_len]; omega
  have hll : (bx1 :: t).length = t.length + 1 := rfl
  rw [hrl, hll] at hnew
  have hH : (bx1 :: t) ++ List.replicate m (lo []) ++ [.lsw ((List.range m).map fun i => .l (t.length + 1 + i))] = HH bx1 t (List.replicate m []) := by
    unfold HH
    simp [lo]
  have p0 : PL m 0 false (List.replicate m []) := by
    have e0 : ∀ (c : Nat) (l : List Int), (List.replicate m ([] : List Int))[c]? = some l → l = [] := fun c l h => by
      rw [List.getElem?_replicate] at h
      split at h
      · exact (Option.some.inj h).symm
      · cases h
    refine ⟨by simp, fun c l h x hx => ?_, fun c l h => ?_, fun c l h => ?_, fun j hj => by omega⟩
    · rw [e0 c l h] at hx; simp at hx
    · rw [e0 c l h]; simp
    · rw [e0 c l h]; simp
  obtain ⟨env1, h1', e1, bx2, L1, x4, x5, x6, x7, x8, hb2, p1, rfl, rfl⟩ := for_up (f := fun w env h => evSs (t.length + 1) (callN tab (n + 2)) law_history_b0 (env.set 4 (some w)) h) (m - 1) (fun k env h => HE most m t k false env h)
    (env := [some (.l 0), some (.d (.int most)), some (.d (.int m)), some (.l (t.length + 1 + m)), none, none, none, none, none]) (h := HH bx1 t (List.replicate m [])) ⟨bx1, _, _, _, _, _, _, hb1, p0, rfl, rfl⟩ fun j env h hj i => hist_a n (t.length + 1) (by omega) m24 i
  obtain ⟨u, bx3, u0, u1, hb3, e2⟩ := draw_ok (n + 1) (t.length + 1) (t ++ (L1.map lo ++ [.lsw ((List.range L1.length).map fun i => .l (t.length + 1 + i))])) hb2 (m := 5) (by decide)
  have p2 : PL m (m - 1) true L1 := ⟨p1.len, fun c l h x hx => by have := p1.rg c l h x hx; exact ⟨this.1, this.2.1, fun z => by cases z⟩, p1.nd, fun c l h => by
    have := p1.sz c l h
    simp only [Bool.false_eq_true, if_false] at this
    simp only [if_true]
    split at this <;> omega, p1.all⟩
  obtain ⟨w, hw⟩ : ∃ w : Nat, u * (if (1 : Int) < (m : Int) then 1 else 0) = (w : Int) := ⟨(u * (if (1 : Int) < (m : Int) then 1 else 0)).toNat, by split <;> omega⟩
  have w5 : w ≤ 5 := by split at hw <;> omega
  obtain ⟨env2, h2', e3, bx4, L2', x4', x5', x6', x7', x8', hb4, p4, rfl, rfl⟩ := for_up (f := fun w env h => evSs (t.length + 1) (callN tab (n + 2)) law_history_b2 (env.set 6 (some w)) h) w (fun k env h => HE most m t (m - 1) true env h)
    (env := [some (.l 0), some (.d (.int most)), some (.d (.int m)), some (.l (t.length + 1 + m)), x4, x5, x6, x7, x8]) (h := HH bx3 t L1) ⟨bx3, _, _, _, _, _, _, hb3, p2, rfl, rfl⟩ fun j env h hj i => hist_b n (t.length + 1) (k := 0) (by
      by_cases z : (1 : Int) < m
      · omega
      · rw [if_neg z] at hw
        omega) m24 i _
  obtain ⟨a, bx5, a0, a1, hb5, e4⟩ := draw_ok (n + 1) (t.length + 1) (t ++ (L2'.map lo ++ [.lsw ((List.range L2'.length).map fun i => .l (t.length + 1 + i))])) hb4 (m := 12) (by decide)
  obtain ⟨at_, hat⟩ : ∃ w : Nat, a = (w : Int) := ⟨a.toNat, by omega⟩
  subst hat
  refine ⟨rowsA at_ L2', bx5, at_, rows_hst p4 m0, ?_, hb5, by omega, fun k r e => ?_, ?_⟩
  · have := p4.len
    simp [rowsA, this]
    omega
  · obtain ⟨l, _, rfl⟩ := rowsA_at e
    rfl
  have e5 := hist_end n (t.length + 1) (most := most) (t := t) m24 (bx := bx5) (at_ := at_) (x4 := x4') (x5 := x5') (x6 := x6') (x7 := x7') p4
  have rg1 : rgOk 0 (m : Int) = true := rg_nat (by omega)
  have rg2 : rgOk 0 ((m : Int) - 1) = true := rg_of (by omega) (by omega) (by omega) (by omega)
  have rg3 : rgOk 0 (w : Int) = true := rg_nat (by omega)
  have hc : ((m - 1 : Nat) : Int) = (m : Int) - 1 := by omega
  rw [hc] at e1
  have tk : (HH bx5 t L2').take (t.length + 1) = bx5 :: t := by
    unfold HH
    simp
  have hm' : evBin .Add (.int 1) (.int v) = some (.int m) := by rw [add_i, hm]
  have hlen : ((bx1 :: t) ++ List.replicate m (Ob.lst [])).length = t.length + 1 + m := by simp; omega
  have hmul : evBin .Mult (.int u) (.int (if (1 : Int) < (m : Int) then 1 else 0)) = some (.int w) := by
    rw [mul_r (by split <;> decide) (by split <;> decide), hw]
  have hH' : (bx1 :: t) ++ List.replicate m (Ob.lst []) ++ [.lsw ((List.range m).map fun i => .l (t.length + 1 + i))] = HH bx1 t (List.replicate m []) := hH
  show finR true (t.length + 1) (evSs (t.length + 1) (callN tab (n + 2)) f_law_history.body [some (.l 0), some (.d (.int most)), none, none, none, none, none, none, none] (bx :: t)) = _
  unfold f_law_history
  simp only
  rw [seq_nx (s := law_history_s0) (env' := [some (.l 0), some (.d (.int most)), some (.d (.int m)), none, none, none, none, none, none]) (h' := bx1 :: t) (by simp [e, hm']),
    seq_nx (s := law_history_s1) (env' := [some (.l 0), some (.d (.int most)), some (.d (.int m)), some (.l (t.length + 1 + m)), none, none, none, none, none]) (h' := HH bx1 t (List.replicate m [])) (by
      simp [rg1]
      rw [hnew]
      simp only [noEx_ok, b_ok, lcEnd, hlen, hH']),
    seq_nx (s := law_history_s2) (env' := [some (.l 0), some (.d (.int most)), some (.d (.int m)), some (.l (t.length + 1 + m)), x4, x5, x6, x7, x8]) (h' := HH bx2 t L1) (by simp [s_for, rg2, e1]),
    seq_nx (s := law_history_s3) (env' := [some (.l 0), some (.d (.int most)), some (.d (.int m)), some (.l (t.length + 1 + m)), x4', x5', x6', x7', x8']) (h' := HH bx4 t L2') (by
      have e2' : callN tab (n + 2) (t.length + 1) 10 [.l 0, .d (.int 5)] (HH bx2 t L1) = .ok (.d (.int u)) (HH bx3 t L1) := e2
      simp only [s_for, x_rg1, x_bin, x_call, x_cons, x_var, List.getElem?_cons_succ, List.getElem?_cons_zero, b_ok, x_lit, x_nil, e2', x_blt, x_cmp, cmp_d, gt_i, liftO_s, int_b, decide_eq_true_eq, op2_d, hmul, rg3, if_true, kpt_n, bind_1, e3]),
    seq_nx (s := law_history_s4) (env' := [some (.l 0), some (.d (.int most)), some (.d (.int m)), some (.l (t.length + 1 + m)), x4', x5', x6', x7', some (.d (.int at_))]) (h' := HH bx5 t L2') (by
      have e4' : callN tab (n + 2) (t.length + 1) 10 [.l 0, .d (.int 12)] (HH bx4 t L2') = .ok (.d (.int at_)) (HH bx5 t L2') := e4
      simp [e4']), seq_rt e5]
  simp [tk]
theorem history_ok (n b : Nat) {bx : Ob} (t : Hq) {most : Int} (hb : IsBox bx) (h0 : 0 < most) (h1 : most < 24) : ∃ rows bx', Hst rows ∧ (rows.length : Int) ≤ most ∧ IsBox bx' ∧ callN tab (n + 3) b 14 [.l 0, .d (.int most)] (bx :: t) = .ok (.d (histD rows)) (bx' :: t) := by
  obtain ⟨rows, bx', at_, a1, a2, a3, _, _, a4⟩ := history_nm n b t hb h0 h1
  exact ⟨rows, bx', a1, a2, a3, a4⟩
end Ev

namespace Ev
open PySem
def parI (rows : List (Str × List Int)) (k : Nat) : List Int := (rows[k]?.map (·.2)).getD []
def anStep (rows : List (Str × List Int)) (found : List Int) (k : Nat) : List Int := if (k : Int) ∈ found then found ++ (parI rows k).filter (fun p => !decide (p ∈ found)) else found
def ancN (rows : List (Str × List Int)) (m : Nat) : Nat → List Int
  | 0 => [(m : Int)]
  | j + 1 => anStep rows (ancN rows m j) (m - j)
def anc (rows : List (Str × List Int)) (m : Nat) : List Int := ancN rows m (m + 1)
theorem parI_len {rows : List (Str × List Int)} (hR : Rows rows) (k : Nat) : (parI rows k).length ≤ k := by
  unfold parI
  cases e : rows[k]? with
  | none => simp
  | some r => exact par_len (hR.par k r e)
theorem parI_nd {rows : List (Str × List Int)} (hR : Rows rows) (k : Nat) : (parI rows k).Nodup := by
  unfold parI
  cases e : rows[k]? with
  | none => simp
  | some r => exact (hR.par k r e).pw.imp fun h => by omega
theorem ancN_len {rows : List (Str × List Int)} (hR : Rows rows) (m : Nat) : ∀ j, (ancN rows m j).length ≤ 1 + m * j
  | 0 => by simp [ancN]
  | j + 1 => by
    have h1 := ancN_len hR m j
    have h2 := parI_len hR (m - j)
    have h3 := List.length_filter_le (fun p => !decide (p ∈ ancN rows m j)) (parI rows (m - j))
    have h4 : m * (j + 1) = m * j + m := Nat.mul_succ m j
    unfold ancN anStep
    split
    · rw [List.length_append]; omega
    · omega
theorem hist_at (h : Hq) {rows : List (Str × List Int)} {k : Nat} (hk : k < rows.length) : (evIdx h (.d (histD rows)) (.d (.int 1))) = .ok (.d (.tuple (rows.map rowD))) h ∧ evIdx h (.d (.tuple (rows.map rowD))) (.d (.int k)) = .ok (.d (rowD rows[k])) h ∧ evIdx h (.d (rowD rows[k])) (.d (.int 1)) = .ok (.d (.tuple ((parI rows k).map .int))) h := by
  refine ⟨by simp [histD], by simp [atZ_nat, hk], ?_⟩
  simp [rowD, parI, hk]
theorem hist_1 (h : Hq) {rows : List (Str × List Int)} : (evIdx h (.d (histD rows)) (.d (.int 1))) = .ok (.d (.tuple (rows.map rowD))) h := by simp [histD]

theorem anc_inner (b : Nat) (C : CallF) (hist mm kk : W) (x0 : Option W) (h0 : Hq) (found ps : List Int) (nd : ps.Nodup) (hl : found.length + ps.length < 900000) :
    ∃ x, forGo (fun w env h => match bindT [4] false w env with
        | some env => evSs b C ancestors_b2 env h
        | none => .bad) (ps.map (W.d ∘ PyData.int)) [some hist, some mm, some (.l h0.length), some kk, x0] (h0 ++ [.lst (found.map .int)]) = .ok (.nx [some hist, some mm, some (.l h0.length), some kk, x]) (h0 ++ [.lst ((found ++ ps.filter fun p => !decide (p ∈ found)).map .int)]) := by
  obtain ⟨env', h', e, x, rfl, rfl⟩ := forGo_ok (f := fun w env h => match bindT [4] false w env with
        | some env => evSs b C ancestors_b2 env h
        | none => .bad) (fun i env h => ∃ x, env = [some hist, some mm, some (.l h0.length), some kk, x] ∧ h = h0 ++ [.lst ((found ++ (ps.take i).filter fun p => !decide (p ∈ found)).map .int)]) (ps.map (W.d ∘ PyData.int)) 0 [some hist, some mm, some (.l h0.length), some kk, x0] (h0 ++ [.lst (found.map .int)]) ⟨x0, rfl, by simp⟩ fun j w env h e i => by
          obtain ⟨x, rfl, rfl⟩ := i
          rw [List.getElem?_map] at e
          cases q : ps[j]? with
          | none => rw [q] at e; cases e
          | some p =>
            rw [q] at e
            cases e
            obtain ⟨hj, hp⟩ := List.getElem?_eq_some_iff.mp q
            have tk : ps.take (j + 1) = ps.take j ++ [p] := by rw [List.take_succ, q]; rfl
            have np : p ∉ ps.take j := fun z => by
              obtain ⟨i, hi⟩ := List.getElem?_of_mem z
              have hij : i < j := by
                have := (List.getElem?_eq_some_iff.mp hi).1
                rw [List.length_take] at this
                omega
              rw [List.getElem?_take_of_lt hij] at hi
              obtain ⟨hi1, hi2⟩ := List.getElem?_eq_some_iff.mp hi
              exact List.pairwise_iff_getElem.mp nd i j hi1 hj hij (by rw [hi2, hp])
            refine ⟨[some hist, some mm, some (.l h0.length), some kk, some (.d (.int p))], h0 ++ [.lst ((found ++ (ps.take (j + 1)).filter fun p => !decide (p ∈ found)).map .int)], ?_, _, rfl, by simp only [Nat.zero_add]⟩
            have hlen : (List.map PyData.int (found ++ (ps.take j).filter fun p => !decide (p ∈ found))).length < 1000000 := by
              have := List.length_filter_le (fun p => !decide (p ∈ found)) (ps.take j)
              rw [List.length_take] at this
              simp only [List.length_map, List.length_append]
              omega
            have hin : decide (p ∈ found ++ (ps.take j).filter fun p => !decide (p ∈ found)) = decide (p ∈ found) := by
              rw [decide_eq_decide, List.mem_append, List.mem_filter]
              exact ⟨fun h => h.elim id fun h => absurd h.1 np, .inl⟩
            simp only [Nat.zero_add]
            rw [tk, List.filter_append]
            by_cases hf : p ∈ found
            · simp only [Function.comp, bind_1, ancestors_b2, s_cons, s_ifs, x_cmp, x_var, List.set_cons_succ, List.set_cons_zero, List.getElem?_cons_succ, List.getElem?_cons_zero, b_ok, cmp_dl last_at, nin_l dpt_i, any_int, hin, liftO_s, hf, decide_true, Bool.not_true, s_nil, List.filter_cons_of_neg, List.filter_nil, List.append_nil]
              simp [hf]
            · simp only [Function.comp, bind_1, ancestors_b2, ancestors_b3, s_cons, s_ifs, x_cmp, x_var, List.set_cons_succ, List.set_cons_zero, List.getElem?_cons_succ, List.getElem?_cons_zero, b_ok, cmp_dl last_at, nin_l dpt_i, any_int, hin, liftO_s, hf, decide_false, Bool.not_false, s_nil, s_app, recvL_o last_at, if_true, app_o last_at hlen, last_set]
              simp [hf]
  refine ⟨x, ?_⟩
  rw [e]
  simp

theorem ancestors_ok (n b : Nat) (h0 : Hq) {rows : List (Str × List Int)} (hR : Rows rows) (hr : rows.length ≤ 24) {m : Nat} (hm : m < rows.length) : callN tab (n + 1) b 3 [.d (histD rows), .d (.int m)] h0 = .ok (.d (.tuple ((sortI (anc rows m)).map .int))) h0 := by
  rw [call_of (fd := f_ancestors) _ _ rfl rfl]
  obtain ⟨env', h', e, x1, x2, rfl, rfl⟩ := forGo_ok (f := fun w env h => match bindT [3] false w env with
        | some env => evSs h0.length (callN tab n) ancestors_b0 env h
        | none => .bad) (fun j env h' => ∃ x1 x2, env = [some (.d (histD rows)), some (.d (.int m)), some (.l h0.length), x1, x2] ∧ h' = h0 ++ [.lst ((ancN rows m j).map .int)]) (rangeDn m (-1)) 0 [some (.d (histD rows)), some (.d (.int m)), some (.l h0.length), none, none] (h0 ++ [.lst [.int m]]) ⟨_, _, rfl, rfl⟩ fun j w env h' e i => by
          obtain ⟨rfl, hj⟩ := rangeDn_at e
          obtain ⟨x1, x2, rfl, rfl⟩ := i
          simp only [Nat.zero_add]
          have hk : m - j < rows.length := by omega
          have ek : ((m : Int) - (j : Int)) = ((m - j : Nat) : Int) := by omega
          rw [ek]
          obtain ⟨q1, q2, q3⟩ := hist_at (h0 ++ [.lst ((ancN rows m j).map .int)]) hk
          by_cases hf : ((m - j : Nat) : Int) ∈ ancN rows m j
          · have hl : (ancN rows m j).length + (parI rows (m - j)).length < 900000 := by
              have h1 := ancN_len hR m j
              have h2 := parI_len hR (m - j)
              have h3 : m * j ≤ 24 * 24 := Nat.mul_le_mul (by omega) (by omega)
              omega
            obtain ⟨x, e⟩ := anc_inner h0.length (callN tab n) (.d (histD rows)) (.d (.int m)) (.d (.int (m - j : Nat))) x2 h0 (ancN rows m j) (parI rows (m - j)) (parI_nd hR _) hl
            refine ⟨_, _, ?_, some (.d (.int (m - j : Nat))), x, rfl, rfl⟩
            have ea : ancN rows m (j + 1) = ancN rows m j ++ (parI rows (m - j)).filter (fun p => !decide (p ∈ ancN rows m j)) := by simp only [ancN, anStep, if_pos hf]
            rw [ea]
            simp only [bind_1, List.set_cons_succ, List.set_cons_zero, ancestors_b0, ancestors_b1, s_cons, s_ifs, x_cmp, x_var, List.getElem?_cons_succ, List.getElem?_cons_zero, b_ok, cmp_dl last_at, in_l dpt_i, any_int, hf, decide_true, liftO_s, s_for, x_ite, x_idx, x_lit, q1, q2, q3, it_t, live_d, kpt_n, List.map_map, s_nil]
            simp only [bind_1] at e
            simp only [e, b_ok, s_nil]
          · refine ⟨_, _, ?_, some (.d (.int (m - j : Nat))), x2, rfl, rfl⟩
            have ea : ancN rows m (j + 1) = ancN rows m j := by simp only [ancN, anStep, if_neg hf]
            rw [ea]
            simp only [bind_1, List.set_cons_succ, List.set_cons_zero, ancestors_b0, s_cons, s_ifs, x_cmp, x_var, List.getElem?_cons_succ, List.getElem?_cons_zero, b_ok, cmp_dl last_at, in_l dpt_i, any_int, hf, decide_false, liftO_s, s_nil]
  have rg : rgOk (-1) m = true := rg_of (by omega) (by omega) (by omega) (by omega)
  have hlen : 0 + (rangeDn (m : Int) (-1)).length = m + 1 := by rw [rangeDn_len]; omega
  rw [hlen] at e
  simp only [bind_1] at e
  simp [f_ancestors, s_for, rg, e, sorted_o last_at, anc]

end Ev

namespace Ev
open PySem
/-- m is broken by c -/
def Ab (rows : List (Str × List Int)) (m c : Nat) : Bool := decide ((c : Int) ∈ anc rows m)
theorem mem_anStep {rows : List (Str × List Int)} {found : List Int} {k : Nat} {c : Int} : c ∈ anStep rows found k ↔ c ∈ found ∨ ((k : Int) ∈ found ∧ c ∈ parI rows k) := by
  unfold anStep
  split
  · rename_i h
    simp only [List.mem_append, List.mem_filter, Bool.not_eq_true', decide_eq_false_iff_not]
    constructor
    · rintro (a | ⟨a, _⟩)
      · exact .inl a
      · exact .inr ⟨h, a⟩
    · rintro (a | ⟨_, a⟩)
      · exact .inl a
      · by_cases z : c ∈ found
        · exact .inl z
        · exact .inr ⟨a, z⟩
  · rename_i h
    constructor
    · exact .inl
    · rintro (a | ⟨a, _⟩)
      · exact a
      · exact absurd a h
end Ev

namespace Ev
open PySem
def skD (sk : List Nat) : PyData := .tuple (sk.map ni)
theorem anc_in (h : Hq) {rows : List (Str × List Int)} (m c : Nat) : cmpW .In (.d (.int c)) (.d (.tuple ((sortI (anc rows m)).map .int))) h = .ok (.d (.bool (Ab rows m c))) h := by
  simp [Ab, mem_sortI]
end Ev

namespace Ev
open PySem
/-! who is above whom -/
theorem ancN_rg {rows : List (Str × List Int)} (hR : Rows rows) (m : Nat) : ∀ j, ∀ x ∈ ancN rows m j, 0 ≤ x ∧ x ≤ m
  | 0, x, hx => by simp only [ancN, List.mem_singleton] at hx; omega
  | j + 1, x, hx => by
    rw [show ancN rows m (j + 1) = anStep rows (ancN rows m j) (m - j) from rfl, mem_anStep] at hx
    rcases hx with hx | ⟨hk, hx⟩
    · exact ancN_rg hR m j x hx
    · unfold parI at hx
      cases e : rows[m - j]? with
      | none => rw [e] at hx; simp at hx
      | some r =>
        rw [e] at hx
        have := (hR.par _ _ e).rg x hx
        omega
theorem ancN_self (rows : List (Str × List Int)) (m : Nat) : ∀ j, (m : Int) ∈ ancN rows m j
  | 0 => by simp [ancN]
  | j + 1 => by
    rw [show ancN rows m (j + 1) = anStep rows (ancN rows m j) (m - j) from rfl, mem_anStep]
    exact .inl (ancN_self rows m j)
theorem Ab_self (rows : List (Str × List Int)) (m : Nat) : Ab rows m m = true := by unfold Ab anc; rw [decide_eq_true_eq]; exact ancN_self rows m _
theorem Ab_le {rows : List (Str × List Int)} (hR : Rows rows) {m c : Nat} (h : Ab rows m c = true) : c ≤ m := by
  unfold Ab anc at h
  rw [decide_eq_true_eq] at h
  have := ancN_rg hR m _ _ h
  omega
theorem ancN_all {rows : List (Str × List Int)} (hH : Hst rows) {m : Nat} (hm : m + 1 = rows.length) : ∀ j, (∀ k : Nat, k ≤ m → m ≤ k + j → (k : Int) ∈ ancN rows m j) ∧ ∀ k : Nat, k ≤ m → m + 1 ≤ k + j → ∀ p ∈ parI rows k, p ∈ ancN rows m j
  | 0 => ⟨fun k h1 h2 => by rw [show k = m by omega]; simp [ancN], fun k h1 h2 => by omega⟩
  | j + 1 => by
    obtain ⟨a, p⟩ := ancN_all hH hm j
    have st : ∀ x : Int, x ∈ ancN rows m (j + 1) ↔ x ∈ ancN rows m j ∨ (((m - j : Nat) : Int) ∈ ancN rows m j ∧ x ∈ parI rows (m - j)) := fun x => by
      rw [show ancN rows m (j + 1) = anStep rows (ancN rows m j) (m - j) from rfl, mem_anStep]
    have P : ∀ k : Nat, k ≤ m → m + 1 ≤ k + (j + 1) → ∀ q ∈ parI rows k, q ∈ ancN rows m (j + 1) := fun k h1 h2 q hq => by
      rw [st]
      by_cases hk : m + 1 ≤ k + j
      · exact .inl (p k h1 hk q hq)
      · have : m - j = k := by omega
        rw [this]
        exact .inr ⟨a k h1 (by omega), hq⟩
    refine ⟨fun k h1 h2 => ?_, P⟩
    by_cases hk : m ≤ k + j
    · exact (st _).mpr (.inl (a k h1 hk))
    · obtain ⟨c, r, hc, e, hp⟩ := hH.last k (by omega)
      have hc2 : c < rows.length := (List.getElem?_eq_some_iff.mp e).1
      exact P c (by omega) (by omega) k (by unfold parI; rw [e]; exact hp)
theorem Ab_all {rows : List (Str × List Int)} (hH : Hst rows) {m : Nat} (hm : m + 1 = rows.length) {k : Nat} (hk : k ≤ m) : Ab rows m k = true := by
  unfold Ab anc
  rw [decide_eq_true_eq]
  exact (ancN_all hH hm (m + 1)).1 k hk (by omega)
/-! classes of no skips and of all -/
end Ev

namespace Ev
open PySem
/-! names -/
theorem len_s {s : Str} {h : Hq} (e : s.length ≤ 1000) : evB .len [.d (.str s)] h = .ok (.d (.int s.length)) h := by
  have : s.length ≤ SZ := by unfold SZ; omega
  simp only [evB, evLen, if_pos this]
theorem it_s {s : Str} {h : Hq} (e : s.length ≤ 1000) : itemsOf h (.d (.str s)) = some (s.cps.toList.map fun c => .d (.str ⟨#[c]⟩)) := by
  have : s.length ≤ SZ := by unfold SZ; omega
  simp only [itemsOf, if_pos this]
def isNm (w : Str) : Bool := decide (1 ≤ w.length ∧ w.length ≤ 8) && w.cps.toList.all fun c => alpha.cps.contains c
theorem in_abc {c : Nat} {y : Str} : evCmp .In (.str ⟨#[c]⟩) (.str y) = some (.bool (y.cps.contains c)) := by
  have : Str.length ⟨#[c]⟩ = 1 := rfl
  simp only [evCmp, if_pos this]
  rfl
theorem is_name_ok (n b : Nat) (h : Hq) {w : Str} (hw : w.length ≤ 1000) : callN tab (n + 1) b 0 [.d (.str w)] h = .ok (.d (.bool (isNm w))) h := by
  rw [call_of (fd := f_is_name) _ _ rfl rfl]
  have e0 : evE b (callN tab n) (.blt .all (.cons (.lc 0 [1] false (.e (.var 0)) .none (.cmp .In (.var 1) (.glbS "abcdefghijklmnopqrstuvwxyz"))) .nil)) [some (.d (.str w)), none] h = .ok (.d (.bool (w.cps.toList.all fun c => alpha.cps.contains c))) h := by
    simp only [x_blt, x_cons, x_lc, x_ite, x_var, List.getElem?_cons_zero, b_ok, it_s hw, live_d, kpt_n, x_nil]
    rw [lc_map (g := fun c => W.d (bo (alpha.cps.contains c)))]
    · simp only [noEx_ok, b_ok, lcEnd_m]
      rw [← Function.comp_def bo, ← List.map_map, all_d, List.all_map]
      rfl
    · intro c _
      simp only [bind_1, List.set_cons_succ, List.set_cons_zero, x_none, b_ok, boolO_n, x_cmp, x_var, List.getElem?_cons_succ, List.getElem?_cons_zero, x_glbS, cmp_d, in_abc, liftO_s]
      rfl
  have c0 : evE b (callN tab n) (.cmp2 .LtE .LtE (.lit (.int 1)) (.blt .len (.cons (.var 0) .nil)) (.lit (.int 8))) [some (.d (.str w)), none] h = .ok (.d (.bool (decide (1 ≤ w.length ∧ w.length ≤ 8)))) h := by
    by_cases h1 : 1 ≤ w.length
    · have h1' : (1 : Int) ≤ (w.length : Int) := by omega
      have q : decide ((w.length : Int) ≤ 8) = decide (1 ≤ w.length ∧ w.length ≤ 8) := by rw [decide_eq_decide]; omega
      simp only [x_cmp2, x_lit, x_blt, x_cons, x_var, List.getElem?_cons_zero, b_ok, x_nil, len_s hw, cmp_d, le_i, liftO_s, h1', decide_true, q]
    · have h1' : ¬ (1 : Int) ≤ (w.length : Int) := by omega
      simp only [x_cmp2, x_lit, x_blt, x_cons, x_var, List.getElem?_cons_zero, b_ok, x_nil, len_s hw, cmp_d, le_i, liftO_s, h1', decide_false, h1, false_and]
  show finR false h.length (evSs b (callN tab n) (.cons (.ret (.and (.cmp2 .LtE .LtE (.lit (.int 1)) (.blt .len (.cons (.var 0) .nil)) (.lit (.int 8))) (.one (.blt .all (.cons (.lc 0 [1] false (.e (.var 0)) .none (.cmp .In (.var 1) (.glbS "abcdefghijklmnopqrstuvwxyz"))) .nil))))) .nil) [some (.d (.str w)), none] h) = _
  unfold isNm
  simp only [s_cons, s_ret, x_and, x_one, c0, b_ok]
  cases decide (1 ≤ w.length ∧ w.length ≤ 8)
  · simp only [b_ok, finR_rt, fin_f, Bool.false_and]
  · simp only [e0, b_ok, finR_rt, fin_f, Bool.true_and]
/-! parents -/
end Ev

namespace Ev
open PySem
/-! texts by their signs -/
abbrev txS (l : List Nat) : PyData := .str (SX.S l)
/-- the pieces between a sign -/
def sp1 (c : Nat) : List Nat → List (List Nat)
  | [] => [[]]
  | x :: r => if x = c then [] :: sp1 c r else match sp1 c r with
    | [] => [[x]]
    | p :: ps => (x :: p) :: ps
theorem sp1_ne (c : Nat) : ∀ l, sp1 c l ≠ []
  | [] => by simp [sp1]
  | x :: r => by
    simp only [sp1]
    split
    · simp
    · cases sp1 c r <;> simp
theorem pre1 {c x : Nat} {r : List Nat} : TL.pre [c] (x :: r) = decide (x = c) := by
  unfold TL.pre
  by_cases h : x = c <;> simp [h]
theorem spl_sp1 (c : Nat) : ∀ (l acc : List Nat), TL.spl [c] 0 acc l = match sp1 c l with
    | [] => []
    | p :: ps => (acc ++ p) :: ps
  | [], acc => by simp [TL.spl, sp1]
  | x :: r, acc => by
    have ih := spl_sp1 c r
    unfold TL.spl
    rw [pre1]
    by_cases h : x = c
    · subst h
      simp only [decide_true, if_true, sp1, List.append_nil]
      have := ih []
      rw [show [x].length - 1 = 0 from rfl, this]
      cases e : sp1 x r with
      | nil => exact absurd e (sp1_ne x r)
      | cons p ps => simp
    · simp only [h, decide_false, Bool.false_eq_true, if_false, sp1]
      rw [ih (acc ++ [x])]
      cases e : sp1 c r with
      | nil => exact absurd e (sp1_ne c r)
      | cons p ps => simp
theorem spl_e (c : Nat) (l : List Nat) : TL.spl [c] 0 [] l = sp1 c l := by
  rw [spl_sp1]
  cases e : sp1 c l with
  | nil => exact absurd e (sp1_ne c l)
  | cons p ps => rfl
theorem sp1_app {c : Nat} : ∀ {p : List Nat} (q : List Nat), c ∉ p → sp1 c (p ++ c :: q) = p :: sp1 c q
  | [], q, _ => by simp [sp1]
  | x :: p, q, h => by
    have hx : ¬ x = c := fun z => h (by rw [z]; exact List.mem_cons_self)
    rw [List.cons_append]
    simp only [sp1, if_neg hx]
    rw [sp1_app q fun z => h (List.mem_cons_of_mem _ z)]
theorem sp1_no {c : Nat} : ∀ {p : List Nat}, c ∉ p → sp1 c p = [p]
  | [], _ => rfl
  | x :: p, h => by
    have hx : ¬ x = c := fun z => h (by rw [z]; exact List.mem_cons_self)
    simp only [sp1, if_neg hx]
    rw [sp1_no fun z => h (List.mem_cons_of_mem _ z)]
/-- what is ahead of a sign -/
def ahd (c : Nat) (l : List Nat) : List Nat := l.takeWhile fun x => !decide (x = c)
theorem sp1_hd (c : Nat) : ∀ l, (sp1 c l).head? = some (ahd c l)
  | [] => rfl
  | x :: r => by
    have ih := sp1_hd c r
    simp only [sp1, ahd, List.takeWhile_cons]
    by_cases h : x = c
    · simp [h]
    · cases e : sp1 c r with
      | nil => exact absurd e (sp1_ne c r)
      | cons p ps =>
        rw [e] at ih
        simp only [List.head?_cons, Option.some.injEq] at ih
        simp [h, ih, ahd]
theorem ahd_len (c : Nat) (l : List Nat) : (ahd c l).length ≤ l.length := (List.takeWhile_sublist _).length_le
theorem ahd_app {c : Nat} : ∀ {p : List Nat} (q : List Nat), c ∉ p → ahd c (p ++ q) = p ++ ahd c q
  | [], _, _ => rfl
  | x :: p, q, h => by
    have hx : ¬ x = c := fun z => h (by rw [z]; exact List.mem_cons_self)
    have ih := ahd_app (p := p) q fun z => h (List.mem_cons_of_mem _ z)
    simp only [ahd] at ih ⊢
    rw [List.cons_append, List.takeWhile_cons]
    simp [hx, ih]
/-- the words between spaces -/
def wd1 (l : List Nat) : List (List Nat) := (sp1 32 l).filter fun w => !decide (w = [])
def wdsL (l : List Nat) : List (List Nat) := wd1 (ahd 35 l)
theorem wd1_nil : wd1 [] = [] := rfl
theorem wd1_sp (q : List Nat) : wd1 (32 :: q) = wd1 q := by simp [wd1, sp1]
theorem wd1_sps (q : List Nat) : ∀ n, wd1 (List.replicate n 32 ++ q) = wd1 q
  | 0 => rfl
  | n + 1 => by rw [List.replicate_succ, List.cons_append, wd1_sp, wd1_sps q n]
theorem wd1_w {w : List Nat} (q : List Nat) (h0 : w ≠ []) (h : 32 ∉ w) : wd1 (w ++ 32 :: q) = w :: wd1 q := by
  unfold wd1
  rw [sp1_app q h, List.filter_cons]
  simp [h0]
theorem wd1_one {w : List Nat} (h0 : w ≠ []) (h : 32 ∉ w) : wd1 w = [w] := by
  unfold wd1
  rw [sp1_no h]
  simp [h0]
theorem wd1_end {w : List Nat} (h0 : w ≠ []) (h : 32 ∉ w) : ∀ n, wd1 (w ++ List.replicate n 32) = [w]
  | 0 => by rw [List.replicate_zero, List.append_nil, wd1_one h0 h]
  | n + 1 => by
    rw [List.replicate_succ, wd1_w _ h0 h]
    have := wd1_sps [] n
    rw [List.append_nil] at this
    rw [this, wd1_nil]
theorem wd1_join {s b : Nat} (hs : 1 ≤ s) : ∀ {ws : List (List Nat)}, (∀ w ∈ ws, w ≠ [] ∧ 32 ∉ w) → wd1 (TL.joinL (List.replicate s 32) ws ++ List.replicate b 32) = ws
  | [], _ => by
    have := wd1_sps [] b
    rw [List.append_nil] at this
    show wd1 ([] ++ List.replicate b 32) = []
    rw [List.nil_append, this, wd1_nil]
  | [w], h => wd1_end (h w List.mem_cons_self).1 (h w List.mem_cons_self).2 b
  | w :: v :: r, h => by
    obtain ⟨t, rfl⟩ : ∃ t, s = t + 1 := ⟨s - 1, by omega⟩
    have hw := h w List.mem_cons_self
    show wd1 ((w ++ (List.replicate (t + 1) 32 ++ TL.joinL (List.replicate (t + 1) 32) (v :: r))) ++ List.replicate b 32) = _
    rw [List.append_assoc, List.append_assoc]
    rw [show List.replicate (t + 1) 32 ++ (TL.joinL (List.replicate (t + 1) 32) (v :: r) ++ List.replicate b 32) = 32 :: (List.replicate t 32 ++ (TL.joinL (List.replicate (t + 1) 32) (v :: r) ++ List.replicate b 32)) from by rw [show List.replicate (t + 1) 32 = 32 :: List.replicate t 32 from rfl]; rfl]
    rw [wd1_w _ hw.1 hw.2, wd1_sps, wd1_join (s := t + 1) hs fun x hx => h x (List.mem_cons_of_mem _ hx)]
theorem mem_joinL {S : List Nat} {x : Nat} : ∀ {ws : List (List Nat)}, x ∈ TL.joinL S ws → x ∈ S ∨ ∃ w ∈ ws, x ∈ w
  | [], h => by cases h
  | [w], h => .inr ⟨w, List.mem_cons_self, h⟩
  | w :: v :: r, h => by
    have h : x ∈ w ++ (S ++ TL.joinL S (v :: r)) := h
    rcases List.mem_append.mp h with h | h
    · exact .inr ⟨w, List.mem_cons_self, h⟩
    · rcases List.mem_append.mp h with h | h
      · exact .inl h
      · rcases mem_joinL h with h | ⟨y, hy, h⟩
        · exact .inl h
        · exact .inr ⟨y, List.mem_cons_of_mem _ hy, h⟩
theorem joinL_len {S : List Nat} {m : Nat} : ∀ {ws : List (List Nat)}, (∀ w ∈ ws, w.length ≤ m) → (TL.joinL S ws).length ≤ ws.length * (m + S.length)
  | [], _ => by simp [TL.joinL]
  | [w], h => by
    have := h w List.mem_cons_self
    show w.length ≤ 1 * (m + S.length)
    omega
  | w :: v :: r, h => by
    have h1 := h w List.mem_cons_self
    have ih := joinL_len (S := S) (ws := v :: r) fun x hx => h x (List.mem_cons_of_mem _ hx)
    show (w ++ (S ++ TL.joinL S (v :: r))).length ≤ _
    rw [List.length_append, List.length_append, List.length_cons, Nat.add_mul]
    omega
/-- the words of a written line -/
theorem wds_line {a s b : Nat} {ws : List (List Nat)} {t : List Nat} (hs : 1 ≤ s) (hw : ∀ w ∈ ws, w ≠ [] ∧ 32 ∉ w ∧ 35 ∉ w) (ht : ahd 35 t = List.replicate b 32) : wdsL (List.replicate a 32 ++ (TL.joinL (List.replicate s 32) ws ++ t)) = ws := by
  unfold wdsL
  rw [ahd_app, ahd_app, ht, wd1_sps, wd1_join hs fun w h => ⟨(hw w h).1, (hw w h).2.1⟩]
  · intro z
    rcases mem_joinL z with z | ⟨w, h, z⟩
    · have := (List.mem_replicate.mp z).2
      omega
    · exact (hw w h).2.2 z
  · intro z
    have := (List.mem_replicate.mp z).2
    omega
/-- lines, each with its end -/
def flt (ls : List (List Nat)) : List Nat := (ls.map fun l => l ++ [10]).flatten
theorem flt_snoc (ls : List (List Nat)) (l : List Nat) : flt (ls ++ [l]) = flt ls ++ (l ++ [10]) := by
  unfold flt
  rw [List.map_append, List.flatten_append]
  simp
theorem sp1_flt (q : List Nat) : ∀ {ls : List (List Nat)}, (∀ l ∈ ls, 10 ∉ l) → sp1 10 (flt ls ++ q) = ls ++ sp1 10 q
  | [], _ => rfl
  | l :: ls, h => by
    have e : flt (l :: ls) ++ q = l ++ 10 :: (flt ls ++ q) := by
      unfold flt
      simp
    rw [e, sp1_app _ (h l List.mem_cons_self), sp1_flt q fun x hx => h x (List.mem_cons_of_mem _ hx)]
    rfl
/-! the terms -/
theorem split_e {l : List Nat} {c : Nat} {s : Str} (hs : s = SX.S [c]) (hc : c < 256) (hl : l.length ≤ 1000000) (h : Hq) : evM .split (.d (txS l)) [.d (.str s)] h = .ok (.d (.list ((sp1 c l).map txS))) h := by
  subst hs
  have h3 : (SX.S l).length + 2 ≤ SZ := by rw [SX.S_len]; unfold SZ; omega
  have h2 : ((SX.S [c]).cps.toList.all (· < 256)) = true := by simp [hc]
  simp only [evM, evSpl]
  rw [if_pos ⟨rfl, h2, h3⟩]
  unfold splD
  show R.ok (W.d (.list ((TL.spl [c] 0 [] l).map fun l => PyData.str ⟨l.toArray⟩))) h = _
  rw [spl_e]
theorem rcv_s {f : Mt} {l : Str} {h : Hq} (hf : f = .split ∨ f = .join) : recv f h (.d (.str l)) = true := by
  rcases hf with rfl | rfl <;> rfl
theorem texts_S (ys : List (List Nat)) : textsOf (ys.map txS) = some (ys.map SX.S) := by
  induction ys with
  | nil => rfl
  | cons y ys ih => rw [List.map_cons]; simp only [textsOf, ih]; rfl
theorem sum_le {m : Nat} : ∀ {l : List Nat}, (∀ x ∈ l, x ≤ m) → l.sum ≤ l.length * m
  | [], _ => by simp
  | x :: l, h => by
    have := h x List.mem_cons_self
    have ih := sum_le (l := l) fun y hy => h y (List.mem_cons_of_mem _ hy)
    rw [List.sum_cons, List.length_cons, Nat.add_mul]
    omega
theorem join_e {a : List Nat} {s : Str} {ys : List (List Nat)} {m : Nat} (hs : s = SX.S a) (hm : ∀ y ∈ ys, y.length ≤ m) (hz : ys.length * m + ys.length * a.length ≤ 1000000) (h : Hq) : evM .join (.d (.str s)) [.d (.list (ys.map txS))] h = .ok (.d (txS (TL.joinL a ys))) h := by
  subst hs
  have e1 : ((toD h (.d (.list (ys.map txS)))).bind seqOf).bind textsOf = some (ys.map SX.S) := texts_S ys
  have le : ((ys.map SX.S).map (·.length)).sum + (ys.map SX.S).length * (SX.S a).length ≤ SZ := by
    rw [SX.lens, List.length_map, SX.S_len]
    have := sum_le (l := ys.map (·.length)) (m := m) fun x hx => by
      obtain ⟨y, hy, rfl⟩ := List.mem_map.mp hx
      exact hm y hy
    rw [List.length_map] at this
    unfold SZ
    omega
  simp only [evM, evJoi, e1]
  rw [if_pos le, SX.join_S]
theorem add_e {a b : List Nat} (h : a.length + b.length ≤ 1000000) : evBin .Add (txS a) (txS b) = some (txS (a ++ b)) := by
  have : (SX.S a).length + (SX.S b).length ≤ SZ := by rw [SX.S_len, SX.S_len]; unfold SZ; omega
  simp only [evBin, if_pos this, SX.S_cat]
theorem tS_of (s : Str) : PyData.str s = txS s.cps.toList := by rw [txS, SX.S_tl]
end Ev

namespace Ev
open PySem
theorem S_nil {a : List Nat} : SX.S a = "" ↔ a = [] := ⟨fun h => SX.S_inj (a := a) (b := []) h, fun h => by rw [h]; rfl⟩
theorem rcv_t {l : Str} {h : Hq} : recv .split h (.d (.str l)) = true := rfl
theorem rcv_j {l : Str} {h : Hq} : recv .join h (.d (.str l)) = true := rfl
theorem words_of_ok (n b : Nat) (h : Hq) {l : List Nat} (hl : l.length ≤ 100000) : callN tab (n + 1) b 4 [.d (txS l)] h = .ok (.d (.list ((wdsL l).map txS))) h := by
  rw [call_of (fd := f_words_of) _ _ rfl rfl]
  have s1 := split_e (l := l) (c := 35) (s := "#") rfl (by omega) (by omega) h
  have i0 : evIdx h (.d (.list ((sp1 35 l).map txS))) (.d (.int 0)) = .ok (.d (txS (ahd 35 l))) h := by
    rw [idx_l, atZ_0, List.getElem?_map, ← List.head?_eq_getElem?, sp1_hd]; rfl
  have s2 := split_e (l := ahd 35 l) (c := 32) (s := " ") rfl (by omega) (by have := ahd_len 35 l; omega) h
  have e : evE b (callN tab n) (.lc 0 [1] false (.e (.mth .split (.idx (.mth .split (.var 0) (.cons (.lit (.str "#")) .nil)) (.lit (.int 0))) (.cons (.lit (.str " ")) .nil))) (.some (.cmp .NotEq (.var 1) (.lit (.str "")))) (.var 1)) [some (.d (txS l)), none] h = .ok (.d (.list ((wdsL l).map txS))) h := by
    simp only [x_lc, x_ite, x_mth, x_idx, x_var, x_lit, x_cons, x_nil, List.getElem?_cons_succ, List.getElem?_cons_zero, b_ok, rcv_t, if_true, s1, i0, s2, it_l, live_d, kpt_n, List.map_map]
    rw [lc_filter (emb := W.d ∘ txS) (g := W.d ∘ txS) (p := fun w => !decide (w = []))]
    · simp [wdsL, wd1]
    · intro w _
      have eq : decide (SX.S w = "") = decide (w = []) := by rw [decide_eq_decide]; exact S_nil
      simp only [Function.comp, bind_1, List.set_cons_succ, List.set_cons_zero, x_some, x_cmp, x_var, x_lit, List.getElem?_cons_succ, List.getElem?_cons_zero, b_ok, cmp_d, ne_d, dpt_s, Bool.true_or, eqv_s, eq, liftO_s, boolO_b]
      cases decide (w = []) <;> rfl
  show finR false _ (evSs b (callN tab n) (.cons words_of_s0 .nil) [some (.d (txS l)), none] h) = _
  simp only [s_cons, s_ret, e, b_ok]
  rfl
end Ev

namespace Ev
open PySem
def ixN (N : List Str) (nm : Str) : Option Nat := N.findIdx? fun x => decide (x = nm)
theorem ix_none {N : List Str} {nm : Str} : ixN N nm = none ↔ nm ∉ N := by
  unfold ixN
  rw [List.findIdx?_eq_none_iff]
  simp only [decide_eq_false_iff_not]
  exact ⟨fun h z => h nm z rfl, fun h x hx e => h (e ▸ hx)⟩
theorem ix_some {N : List Str} {nm : Str} {m : Nat} (e : ixN N nm = some m) : N[m]? = some nm ∧ nm ∈ N ∧ m < N.length := by
  unfold ixN at e
  obtain ⟨hm, h, _⟩ := List.findIdx?_eq_some_iff_getElem.mp e
  have h := of_decide_eq_true h
  refine ⟨by rw [List.getElem?_eq_getElem hm, h], ?_, hm⟩
  rw [← h]; exact List.getElem_mem hm
theorem find_strs {N : List Str} {nm : Str} : ((N.map PyData.str).findIdx? fun y => PyData.eqv y (.str nm)) = ixN N nm := by
  rw [List.findIdx?_map]
  unfold ixN
  congr
/-! what is raised -/
theorem log_small {k : Nat} (h : k ≤ 1000) : (((k : Nat) : Int).natAbs).log2 < 1920 := by
  rw [Int.natAbs_natCast]
  by_cases e : k = 0
  · subst e; decide
  · refine (Nat.log2_lt e).mpr (Nat.lt_of_le_of_lt h ?_)
    exact Nat.lt_of_lt_of_le (by decide : 1000 < 2 ^ 10) (Nat.pow_le_pow_right (by decide) (by decide))
theorem ofS_len (k : Nat) (h : k ≤ 1000) : (Str.ofString (toString ((k : Nat) : Int))).length ≤ 81 := by
  rw [ofString_length]
  exact int_text_length_le10 (by decide) (by rw [Int.natAbs_natCast]; exact Nat.lt_of_le_of_lt h (by decide +kernel))
theorem msgN {k : Nat} (hk : k ≤ 1000) {s : Str} (hs : s.length ≤ 1000) : (evMg (.ad (.ad (.st 0) (.c ": ")) (.v 1)) [.int (k : Nat), .str s]).isSome = true := by
  have l := ofS_len k hk
  have g := log_small hk
  have e2 : SZ = 16777216 := rfl
  have e1 : (Str.length ": ") = 2 := by decide +kernel
  have z : (Str.ofString (toString ((k : Nat) : Int))).length + (Str.length ": ") ≤ SZ := by omega
  have la : ((Str.ofString (toString ((k : Nat) : Int))) ++ (": " : Str)).length = (Str.ofString (toString ((k : Nat) : Int))).length + 2 := by
    rw [Str.length_append, e1]
  have z2 : ((Str.ofString (toString ((k : Nat) : Int))) ++ (": " : Str)).length + s.length ≤ SZ := by omega
  simp only [evMg, List.getElem?_cons_zero, List.getElem?_cons_succ, g, if_true, z, z2, Option.isSome_some]
theorem rais_n (b : Nat) (C : CallF) (env : Vars) (h : Hq) {k : Nat} (hk : k ≤ 1000) {s : Str} (hs : s.length ≤ 1000) {e : E} (he : evE b C e env h = .ok (.d (.int (k : Nat))) h) : evS b C (.raism 1 (.ad (.ad (.st 0) (.c ": ")) (.v 1)) 2 (.cons e (.cons (.lit (.str s)) .nil))) env h = .ex 1 [.str s, .int (k : Nat)] h :=
  s_raism b C env h (ws := [.d (.int (k : Nat)), .d (.str s)]) (ds := [.int (k : Nat), .str s]) (by simp only [x_cons, he, x_lit, b_ok, x_nil]) rfl rfl (msgN hk hs)
/-- the parents that words name -/
def pars (N : List Str) : List Str → List Nat → Except Str (List Nat)
  | [], f => .ok f
  | w :: ws, f => match ixN N w with
    | none => .error "unknown make"
    | some j => if j ∈ f then .error "twice a parent" else pars N ws (f ++ [j])
def PLoop (C : CallF) (num : Nat) (x1 : W) (N : List Str) (h : Hq) (ws : List Str) (f : List Nat) (x4 : Option W) : Prop :=
  (∀ f', pars N ws f = .ok f' → ∃ y4, forGo (fun w env h' => match bindT [4] false w env with
      | some env => evSs h.length C parents_of_b0 env h'
      | none => .bad) (ws.map (W.d ∘ .str)) [some (.d (.int (num : Nat))), some x1, some (.d (.list (N.map .str))), some (.l h.length), x4] (h ++ [.lst (f.map ni)]) = .ok (.nx [some (.d (.int (num : Nat))), some x1, some (.d (.list (N.map .str))), some (.l h.length), y4]) (h ++ [.lst (f'.map ni)])) ∧
  (∀ s, pars N ws f = .error s → ∃ o, forGo (fun w env h' => match bindT [4] false w env with
      | some env => evSs h.length C parents_of_b0 env h'
      | none => .bad) (ws.map (W.d ∘ .str)) [some (.d (.int (num : Nat))), some x1, some (.d (.list (N.map .str))), some (.l h.length), x4] (h ++ [.lst (f.map ni)]) = .ex 1 [.str s, .int (num : Nat)] (h ++ [o]))
theorem pars_loop (C : CallF) {num : Nat} (hn : num ≤ 1000) (x1 : W) (N : List Str) (h : Hq) : ∀ (ws : List Str) (f : List Nat) (x4 : Option W), f.length + ws.length ≤ 1000 → PLoop C num x1 N h ws f x4
  | [], f, x4, _ => ⟨fun f' e => by cases e; exact ⟨x4, rfl⟩, fun s e => by cases e⟩
  | w :: ws, f, x4, hl => by
    obtain ⟨HH, hHH⟩ : ∃ HH, (h ++ [Ob.lst (f.map ni)]) = HH := ⟨_, rfl⟩
    have i3 : HH[h.length]? = some (.lst (f.map ni)) := by rw [← hHH]; exact last_at
    have nin : evCmp .NotIn (.str w) (.list (N.map .str)) = some (.bool (!decide (w ∈ N))) := by rw [nin_l dpt_s, any_str]
    obtain ⟨EV, hE⟩ : ∃ EV : Vars, [some (.d (.int (num : Nat))), some x1, some (.d (.list (N.map .str))), some (.l h.length), some (.d (.str w))] = EV := ⟨_, rfl⟩
    have v0 : EV[0]? = some (some (.d (.int (num : Nat)))) := by rw [← hE]; rfl
    have v2 : EV[2]? = some (some (.d (.list (N.map .str)))) := by rw [← hE]; rfl
    have v3 : EV[3]? = some (some (.l h.length)) := by rw [← hE]; rfl
    have v4 : EV[4]? = some (some (.d (.str w))) := by rw [← hE]; rfl
    have bd : bindT [4] false (W.d (.str w)) [some (.d (.int (num : Nat))), some x1, some (.d (.list (N.map .str))), some (.l h.length), x4] = some EV := by rw [← hE]; rfl
    have rs := fun (s : Str) hs => rais_n h.length C EV HH hn (s := s) hs (e := .var 0) (by simp only [x_var, v0])
    have fi := find_strs (N := N) (nm := w)
    unfold PLoop
    simp only [pars, List.map_cons, forGo, Function.comp, bd, hHH]
    cases e : ixN N w with
    | none =>
      have nm := ix_none.mp e
      refine ⟨fun f' z => by simp at z, fun s z => ?_⟩
      cases z
      refine ⟨.lst (f.map ni), ?_⟩
      have q0 : evS h.length C parents_of_b0_s0 EV HH = .ex 1 [.str "unknown make", .int (num : Nat)] HH := by
        simp only [s_ifs, x_cmp, x_var, v4, v2, b_ok, cmp_d, nin, nm, decide_false, Bool.not_false, liftO_s, parents_of_b1, s_cons, rs _ (by decide +kernel : Str.length "unknown make" ≤ 1000), b_ex]
      simp only [parents_of_b0, s_cons, q0, b_ex]
      rw [hHH]
    | some j =>
      dsimp only
      have nm := (ix_some e).2.1
      have q0 : evS h.length C parents_of_b0_s0 EV HH = .ok (.nx EV) HH := by
        simp only [s_ifs, x_cmp, x_var, v4, v2, b_ok, cmp_d, nin, nm, decide_true, Bool.not_true, liftO_s, s_nil]
      have ix : evM .index (.d (.list (N.map .str))) [.d (.str w)] HH = .ok (.d (.int (j : Nat))) HH := by
        have t : toDD HH (.d (.list (N.map .str))) = some (.list (N.map .str)) := rfl
        simp only [evM, t, dpt_s, if_true, fi, e]
      have rc : recv .index HH (.d (.list (N.map .str))) = true := rfl
      have ci : cmpW .In (.d (.int (j : Nat))) (.l h.length) HH = .ok (.d (.bool (decide (j ∈ f)))) HH := by
        rw [cmp_dl i3, in_ln]
        rfl
      by_cases hj : j ∈ f
      · rw [if_pos hj]
        refine ⟨fun f' z => by simp at z, fun s z => ?_⟩
        cases z
        refine ⟨.lst (f.map ni), ?_⟩
        have q1 : evS h.length C parents_of_b0_s1 EV HH = .ex 1 [.str "twice a parent", .int (num : Nat)] HH := by
          simp only [s_ifs, x_cmp, x_mth, x_var, x_cons, x_nil, v4, v3, v2, b_ok, rc, if_true, ix, ci, hj, decide_true, parents_of_b2, s_cons, rs _ (by decide +kernel : Str.length "twice a parent" ≤ 1000), b_ex]
        simp only [parents_of_b0]
        rw [seq_nx q0]
        simp only [s_cons, q1, b_ex]
        rw [hHH]
      · rw [if_neg hj]
        have ap := app_o (b := h.length) (x := ni j) i3 (by rw [List.length_map]; simp at hl; omega)
        have st : HH.set h.length (.lst (f.map ni ++ [ni j])) = h ++ [.lst ((f ++ [j]).map ni)] := by rw [← hHH]; simp
        rw [st] at ap
        have ap : evApp h.length (.l h.length) (.d (.int (j : Nat))) HH = .ok () (h ++ [.lst ((f ++ [j]).map ni)]) := ap
        have q1 : evS h.length C parents_of_b0_s1 EV HH = .ok (.nx EV) HH := by
          simp only [s_ifs, x_cmp, x_mth, x_var, x_cons, x_nil, v4, v3, v2, b_ok, rc, if_true, ix, ci, hj, decide_false, s_nil]
        have q2 : evS h.length C parents_of_b0_s2 EV HH = .ok (.nx EV) (h ++ [.lst ((f ++ [j]).map ni)]) := by
          simp only [s_app, x_var, v3, b_ok, recvL_o i3, if_true, x_mth, v2, v4, x_cons, x_nil, rc, ix, ap]
        have bo : evSs h.length C parents_of_b0 EV HH = .ok (.nx EV) (h ++ [.lst ((f ++ [j]).map ni)]) := by
          simp only [parents_of_b0]
          rw [seq_nx q0, seq_nx q1, seq_nx q2, s_nil]
        have ih := pars_loop C hn x1 N h ws (f ++ [j]) (some (.d (.str w))) (by simp at hl ⊢; omega)
        simp only [bo, b_ok]
        rw [← hE]
        exact ih
/-- the make of a line, or why not -/
def pars5 (N : List Str) (ws : List Str) : Except Str (List Int) := match pars N ws [] with
  | .error s => .error s
  | .ok f => if 4 < f.length then .error "too many parents" else .ok (sortI (f.map fun x : Nat => (x : Int)))
theorem parents_of_ok (n b : Nat) (h : Hq) {num : Nat} (hn : num ≤ 1000) {ws N : List Str} (hl : ws.length ≤ 1000) : callN tab (n + 1) b 5 [.d (.int (num : Nat)), .d (.list (ws.map .str)), .d (.list (N.map .str))] h = match pars5 N ws with
    | .ok ps => .ok (.d (.tuple (ps.map .int))) h
    | .error s => .ex 1 [.str s, .int (num : Nat)] h := by
  rw [call_of (fd := f_parents_of) _ _ rfl rfl]
  have lp := pars_loop (callN tab n) hn (.d (.list (ws.map .str))) N h ws [] none (by simp; omega)
  unfold PLoop at lp
  show finR true h.length (evSs h.length (callN tab n) (.cons parents_of_s0 (.cons parents_of_s1 (.cons parents_of_s2 (.cons parents_of_s3 .nil)))) [some (.d (.int (num : Nat))), some (.d (.list (ws.map .str))), some (.d (.list (N.map .str))), none, none] h) = _
  have q0 : evS h.length (callN tab n) parents_of_s0 [some (.d (.int (num : Nat))), some (.d (.list (ws.map .str))), some (.d (.list (N.map .str))), none, none] h = .ok (.nx [some (.d (.int (num : Nat))), some (.d (.list (ws.map .str))), some (.d (.list (N.map .str))), some (.l h.length), none]) (h ++ [.lst []]) := by
    simp only [s_asg, x_lstM, x_nil, b_ok, allD_0, bind_1, List.set_cons_succ, List.set_cons_zero]
  have c1 : evIt h.length (callN tab n) (.e (.var 1)) [some (.d (.int (num : Nat))), some (.d (.list (ws.map .str))), some (.d (.list (N.map .str))), some (.l h.length), none] (h ++ [.lst []]) = .ok (ws.map (W.d ∘ .str), none) (h ++ [.lst []]) := by
    simp only [x_ite, x_var, List.getElem?_cons_succ, List.getElem?_cons_zero, b_ok, it_l, live_d, List.map_map]
  rw [seq_nx q0]
  unfold pars5
  cases e : pars N ws [] with
  | error s =>
    obtain ⟨o, e1⟩ := lp.2 s e
    have q1 : evS h.length (callN tab n) parents_of_s1 [some (.d (.int (num : Nat))), some (.d (.list (ws.map .str))), some (.d (.list (N.map .str))), some (.l h.length), none] (h ++ [.lst []]) = .ex 1 [.str s, .int (num : Nat)] (h ++ [o]) := by
      rw [s_for, c1]
      simp only [b_ok, kpt_n]
      exact e1
    simp only [s_cons, q1, b_ex, finR_ex, if_true]
    rw [last_take]
  | ok f =>
    obtain ⟨y4, e1⟩ := lp.1 f e
    have q1 : evS h.length (callN tab n) parents_of_s1 [some (.d (.int (num : Nat))), some (.d (.list (ws.map .str))), some (.d (.list (N.map .str))), some (.l h.length), none] (h ++ [.lst []]) = .ok (.nx [some (.d (.int (num : Nat))), some (.d (.list (ws.map .str))), some (.d (.list (N.map .str))), some (.l h.length), y4]) (h ++ [.lst (f.map ni)]) := by
      rw [s_for, c1]
      simp only [b_ok, kpt_n]
      exact e1
    rw [seq_nx q1]
    have i3 : (h ++ [Ob.lst (f.map ni)])[h.length]? = some (.lst (f.map ni)) := last_at
    by_cases z : 4 < f.length
    · have z' : (4 : Int) < (f.length : Nat) := by omega
      have rs := rais_n h.length (callN tab n) [some (.d (.int (num : Nat))), some (.d (.list (ws.map .str))), some (.d (.list (N.map .str))), some (.l h.length), y4] (h ++ [.lst (f.map ni)]) hn (s := "too many parents") (by decide +kernel) (e := .var 0) (by simp only [x_var, List.getElem?_cons_zero])
      have q2 : evS h.length (callN tab n) parents_of_s2 [some (.d (.int (num : Nat))), some (.d (.list (ws.map .str))), some (.d (.list (N.map .str))), some (.l h.length), y4] (h ++ [.lst (f.map ni)]) = .ex 1 [.str "too many parents", .int (num : Nat)] (h ++ [.lst (f.map ni)]) := by
        simp only [s_ifs, x_cmp, x_blt, x_cons, x_nil, x_var, List.getElem?_cons_succ, List.getElem?_cons_zero, b_ok, len_o i3, List.length_map, x_glb, cmp_d, gt_i, z', decide_true, liftO_s, parents_of_b3, s_cons, rs, b_ex]
      simp only [if_pos z, s_cons, q2, b_ex, finR_ex, if_true]
      rw [last_take]
    · have z' : ¬ (4 : Int) < (f.length : Nat) := by omega
      have q2 : evS h.length (callN tab n) parents_of_s2 [some (.d (.int (num : Nat))), some (.d (.list (ws.map .str))), some (.d (.list (N.map .str))), some (.l h.length), y4] (h ++ [.lst (f.map ni)]) = .ok (.nx [some (.d (.int (num : Nat))), some (.d (.list (ws.map .str))), some (.d (.list (N.map .str))), some (.l h.length), y4]) (h ++ [.lst (f.map ni)]) := by
        simp only [s_ifs, x_cmp, x_blt, x_cons, x_nil, x_var, List.getElem?_cons_succ, List.getElem?_cons_zero, b_ok, len_o i3, List.length_map, x_glb, cmp_d, gt_i, z', decide_false, liftO_s, s_nil]
      have so : evB .sorted [.l h.length] (h ++ [.lst (f.map ni)]) = .ok (.d (.list ((sortI (f.map fun x : Nat => (x : Int))).map .int))) (h ++ [.lst (f.map ni)]) := by
        have ei : f.map ni = (f.map fun x : Nat => (x : Int)).map PyData.int := by simp [ni, Function.comp_def]
        rw [ei]
        exact sorted_o last_at
      have q3 : evS h.length (callN tab n) parents_of_s3 [some (.d (.int (num : Nat))), some (.d (.list (ws.map .str))), some (.d (.list (N.map .str))), some (.l h.length), y4] (h ++ [.lst (f.map ni)]) = .ok (.rt (.d (.tuple ((sortI (f.map fun x : Nat => (x : Int))).map .int)))) (h ++ [.lst (f.map ni)]) := by
        simp only [s_ret, x_blt, x_cons, x_nil, x_var, List.getElem?_cons_succ, List.getElem?_cons_zero, b_ok, so, tup_l]
      simp only [if_neg z]
      rw [seq_nx q2, seq_rt q3]
      simp only [finR_rt, fin_t]
      rw [last_take]
end Ev

namespace Ev
open PySem
theorem cut_dropN {α : Type} {l : List α} {k : Nat} : cutL l (some (k : Int)) none = l.drop k := by
  unfold cutL
  rw [HT.sIx_none, HT.sIx_nat]
  by_cases hk : k ≤ l.length
  · rw [Nat.min_eq_left hk]
    apply List.take_of_length_le
    simp
  · rw [Nat.min_eq_right (by omega)]
    rw [List.drop_eq_nil_of_le (by omega), List.drop_eq_nil_of_le (by omega)]
    simp
theorem ixs {ws : List Str} {k : Nat} (hk : k < ws.length) (h : Hq) : evIdx h (.d (.list (ws.map .str))) (.d (.int (k : Nat))) = .ok (.d (.str (ws[k]?.getD ("" : Str)))) h := by
  rw [idx_l, atZ_nat, List.getElem?_map, List.getElem?_eq_getElem hk]
  rfl
/-- the make that words tell -/
def mkR (N : List Str) (ws : List Str) : Except Str (Str × List Int) :=
  if ws[0]?.getD ("" : Str) = "make" then
    if ws.length < 2 ∨ ws.length = 3 ∨ (3 < ws.length ∧ ¬ ws[2]?.getD ("" : Str) = "from") then .error "wrong number of words"
    else if isNm (ws[1]?.getD ("" : Str)) = false then .error "bad name"
    else if ws[1]?.getD ("" : Str) ∈ N then .error "two of a name"
    else match pars5 N (ws.drop 3) with
      | .error s => .error s
      | .ok ps => .ok (ws[1]?.getD ("" : Str), ps)
  else .error "unknown line"
theorem make_of_ok (n b : Nat) (h : Hq) {num : Nat} (hn : num ≤ 1000) {ws N : List Str} (h0 : ws ≠ []) (hl : ws.length ≤ 1000) (hw : ∀ w ∈ ws, w.length ≤ 1000) : callN tab (n + 2) b 6 [.d (.int (num : Nat)), .d (.list (ws.map .str)), .d (.list (N.map .str))] h = match mkR N ws with
    | .ok r => .ok (.d (rowD r)) h
    | .error s => .ex 1 [.str s, .int (num : Nat)] h := by
  rw [call_of (fd := f_make_of) _ _ rfl rfl]
  have lp := List.length_pos_iff.mpr h0
  obtain ⟨EV, hE⟩ : ∃ EV : Vars, [some (W.d (.int (num : Nat))), some (W.d (.list (ws.map .str))), some (W.d (.list (N.map .str)))] = EV := ⟨_, rfl⟩
  have v0 : EV[0]? = some (some (.d (.int (num : Nat)))) := by rw [← hE]; rfl
  have v1 : EV[1]? = some (some (.d (.list (ws.map .str)))) := by rw [← hE]; rfl
  have v2 : EV[2]? = some (some (.d (.list (N.map .str)))) := by rw [← hE]; rfl
  have rs := fun (s : Str) hs => rais_n b (callN tab (n + 1)) EV h hn (s := s) hs (e := .var 0) (by simp only [x_var, v0])
  show finR false _ (evSs b (callN tab (n + 1)) (.cons make_of_s0 (.cons make_of_s1 (.cons make_of_s2 (.cons make_of_s3 (.cons make_of_s4 .nil))))) [some (W.d (.int (num : Nat))), some (W.d (.list (ws.map .str))), some (W.d (.list (N.map .str)))] h) = _
  rw [hE]
  have i0 : evIdx h (.d (.list (ws.map .str))) (.d (.int 0)) = .ok (.d (.str (ws[0]?.getD ("" : Str)))) h := ixs (k := 0) lp h
  unfold mkR
  by_cases c0 : ws[0]?.getD ("" : Str) = "make"
  · rw [if_pos c0]
    have q0 : evS b (callN tab (n + 1)) make_of_s0 EV h = .ok (.nx EV) h := by
      simp only [s_ifs, x_cmp, x_idx, x_var, x_lit, v1, b_ok, i0, cmp_d, ne_d, dpt_s, Bool.true_or, eqv_s, c0, decide_true, Bool.not_true, liftO_s, s_nil]
    rw [seq_nx q0]
    have lenc : ∀ h, evB .len [.d (.list (ws.map .str))] h = .ok (.d (.int (ws.length : Nat))) h := fun h => by rw [len_l, List.length_map]
    have cnd : evE b (callN tab (n + 1)) (.or (.cmp .Lt (.blt .len (.cons (.var 1) .nil)) (.lit (.int 2))) (.or (.cmp .Eq (.blt .len (.cons (.var 1) .nil)) (.lit (.int 3))) (.one (.and (.cmp .Gt (.blt .len (.cons (.var 1) .nil)) (.lit (.int 3))) (.one (.cmp .NotEq (.idx (.var 1) (.lit (.int 2))) (.lit (.str "from")))))))) EV h = .ok (.d (.bool (decide (ws.length < 2 ∨ ws.length = 3 ∨ (3 < ws.length ∧ ¬ ws[2]?.getD ("" : Str) = "from"))))) h := by
      simp only [x_or, x_and, x_one, x_cmp, x_blt, x_cons, x_nil, x_var, x_lit, v1, b_ok, lenc, cmp_d, lt_i, gt_i, eq_d, dpt_i, Bool.true_or, eqv_i, liftO_s]
      by_cases z1 : ws.length < 2
      · have z1' : ((ws.length : Nat) : Int) < 2 := by omega
        simp only [z1, z1', decide_true, true_or]
      · have z1' : ¬ ((ws.length : Nat) : Int) < 2 := by omega
        by_cases z2 : ws.length = 3
        · have z2' : ((ws.length : Nat) : Int) = 3 := by omega
          rw [decide_eq_false z1', decide_eq_true z2', decide_eq_true (show ws.length < 2 ∨ ws.length = 3 ∨ (3 < ws.length ∧ ¬ ws[2]?.getD ("" : Str) = "from") from .inr (.inl z2))]
        · have z2' : ¬ ((ws.length : Nat) : Int) = 3 := by omega
          by_cases z3 : 3 < ws.length
          · have z3' : (3 : Int) < ((ws.length : Nat) : Int) := by omega
            have i2 : evIdx h (.d (.list (ws.map .str))) (.d (.int 2)) = .ok (.d (.str (ws[2]?.getD ("" : Str)))) h := ixs (k := 2) (by omega) h
            simp only [z1, z1', z2, z2', z3, z3', decide_false, decide_true, x_idx, x_var, x_lit, v1, b_ok, i2, cmp_d, ne_d, dpt_s, Bool.true_or, eqv_s, liftO_s, false_or, true_and, decide_not]
          · have z3' : ¬ (3 : Int) < ((ws.length : Nat) : Int) := by omega
            simp only [z1, z1', z2, z2', z3, z3', decide_false, false_or, false_and]
    by_cases c1 : ws.length < 2 ∨ ws.length = 3 ∨ (3 < ws.length ∧ ¬ ws[2]?.getD ("" : Str) = "from")
    · rw [if_pos c1]
      have q1 : evS b (callN tab (n + 1)) make_of_s1 EV h = .ex 1 [.str "wrong number of words", .int (num : Nat)] h := by
        rw [s_ifs, cnd]
        simp only [b_ok, c1, decide_true, make_of_b1, s_cons, rs _ (by decide +kernel : Str.length "wrong number of words" ≤ 1000), b_ex]
      simp only [s_cons, q1, b_ex, finR_ex, Bool.false_eq_true, if_false]
    · rw [if_neg c1]
      have q1 : evS b (callN tab (n + 1)) make_of_s1 EV h = .ok (.nx EV) h := by
        rw [s_ifs, cnd]
        simp only [b_ok, c1, decide_false, s_nil]
      rw [seq_nx q1]
      have l2 : 1 < ws.length := by omega
      have i1 : evIdx h (.d (.list (ws.map .str))) (.d (.int 1)) = .ok (.d (.str (ws[1]?.getD ("" : Str)))) h := ixs (k := 1) l2 h
      obtain ⟨nm, hnm⟩ : ∃ nm, ws[1]?.getD ("" : Str) = nm := ⟨_, rfl⟩
      rw [hnm] at i1 ⊢
      have nml : nm.length ≤ 1000 := by
        rw [List.getElem?_eq_getElem l2, Option.getD_some] at hnm
        rw [← hnm]
        exact hw _ (List.getElem_mem l2)
      have isn := is_name_ok n b h nml
      cases c2 : isNm nm with
      | false =>
        have q2 : evS b (callN tab (n + 1)) make_of_s2 EV h = .ex 1 [.str "bad name", .int (num : Nat)] h := by
          simp only [s_ifs, x_nt, x_call, x_cons, x_nil, x_idx, x_var, x_lit, v1, b_ok, i1, isn, c2, Bool.not_false, make_of_b2, s_cons, rs _ (by decide +kernel : Str.length "bad name" ≤ 1000), b_ex]
        simp only [if_true, s_cons, q2, b_ex, finR_ex, Bool.false_eq_true, if_false]
      | true =>
        have q2 : evS b (callN tab (n + 1)) make_of_s2 EV h = .ok (.nx EV) h := by
          simp only [s_ifs, x_nt, x_call, x_cons, x_nil, x_idx, x_var, x_lit, v1, b_ok, i1, isn, c2, Bool.not_true, s_nil]
        rw [seq_nx q2]
        simp only [Bool.true_eq_false, if_false]
        have ci : evCmp .In (.str nm) (.list (N.map .str)) = some (.bool (decide (nm ∈ N))) := by rw [in_l dpt_s, any_str]
        by_cases c3 : nm ∈ N
        · have q3 : evS b (callN tab (n + 1)) make_of_s3 EV h = .ex 1 [.str "two of a name", .int (num : Nat)] h := by
            simp only [s_ifs, x_cmp, x_idx, x_var, x_lit, v1, v2, b_ok, i1, cmp_d, ci, c3, decide_true, liftO_s, make_of_b3, s_cons, rs _ (by decide +kernel : Str.length "two of a name" ≤ 1000), b_ex]
          simp only [if_pos c3, s_cons, q3, b_ex, finR_ex, Bool.false_eq_true, if_false]
        · have q3 : evS b (callN tab (n + 1)) make_of_s3 EV h = .ok (.nx EV) h := by
            simp only [s_ifs, x_cmp, x_idx, x_var, x_lit, v1, v2, b_ok, i1, cmp_d, ci, c3, decide_false, liftO_s, s_nil]
          rw [seq_nx q3]
          simp only [if_neg c3]
          have po := parents_of_ok n b h hn (ws := ws.drop 3) (N := N) (by rw [List.length_drop]; omega)
          have cd : cutL (ws.map PyData.str) (some 3) none = (ws.drop 3).map .str := by
            rw [List.map_drop]
            exact cut_dropN (k := 3)
          cases e : pars5 N (ws.drop 3) with
          | error s =>
            rw [e] at po
            have q4 : evS b (callN tab (n + 1)) make_of_s4 EV h = .ex 1 [.str s, .int (num : Nat)] h := by
              simp only [s_ret, x_tup, x_cons, x_idx, x_var, x_lit, v0, v1, v2, b_ok, i1, x_call, x_slc, x_some, x_none, intO_i, intO_n, slc_l, cd, x_nil, po, b_ex]
            simp only [s_cons, q4, b_ex, finR_ex, Bool.false_eq_true, if_false]
          | ok ps =>
            rw [e] at po
            have q4 : evS b (callN tab (n + 1)) make_of_s4 EV h = .ok (.rt (.d (rowD (nm, ps)))) h := by
              simp only [s_ret, x_tup, x_cons, x_idx, x_var, x_lit, v0, v1, v2, b_ok, i1, x_call, x_slc, x_some, x_none, intO_i, intO_n, slc_l, cd, x_nil, po, allD_c, allD_0, Option.map_some]
              rfl
            rw [seq_rt q4]
            rfl
  · rw [if_neg c0]
    have q0 : evS b (callN tab (n + 1)) make_of_s0 EV h = .ex 1 [.str "unknown line", .int (num : Nat)] h := by
      simp only [s_ifs, x_cmp, x_idx, x_var, x_lit, v1, b_ok, i0, cmp_d, ne_d, dpt_s, Bool.true_or, eqv_s, c0, decide_false, Bool.not_false, liftO_s, make_of_b0, s_cons, rs _ (by decide +kernel : Str.length "unknown line" ≤ 1000), b_ex]
    simp only [s_cons, q0, b_ex, finR_ex, Bool.false_eq_true, if_false]
end Ev

namespace Ev
open PySem
theorem ne_nil_l {xs : List PyData} : evCmp .NotEq (.list xs) (.list []) = some (.bool (!xs.isEmpty)) := by
  have d : (dpt (.list xs) || dpt (.list [])) = true := by
    rw [show dpt (.list []) = true from rfl, Bool.or_true]
  rw [ne_d d]
  cases xs <;> rfl
/-- what the lines tell -/
def prs (M : List (Str × List Int)) (num : Nat) : List (List Nat) → Except (Str × Nat) (List (Str × List Int))
  | [] => .ok M
  | l :: ls => if wdsL l = [] then prs M (num + 1) ls else match mkR (M.map (·.1)) ((wdsL l).map SX.S) with
    | .ok r => prs (M ++ [r]) (num + 1) ls
    | .error s => .error (s, num + 1)
theorem prs_app : ∀ (ls ls' : List (List Nat)) (M : List (Str × List Int)) (num : Nat), prs M num (ls ++ ls') = match prs M num ls with
    | .ok M' => prs M' (num + ls.length) ls'
    | .error e => .error e
  | [], ls', M, num => by simp [prs]
  | l :: ls, ls', M, num => by
    rw [List.cons_append]
    simp only [prs]
    by_cases h : wdsL l = []
    · rw [if_pos h, if_pos h, prs_app ls ls' M (num + 1), List.length_cons, show num + 1 + ls.length = num + (ls.length + 1) by omega]
    · rw [if_neg h, if_neg h]
      cases mkR (M.map (·.1)) ((wdsL l).map SX.S) with
      | ok r => simp only; rw [prs_app ls ls' (M ++ [r]) (num + 1), List.length_cons, show num + 1 + ls.length = num + (ls.length + 1) by omega]
      | error s => rfl
theorem wd1_len (l : List Nat) : ∀ w ∈ wd1 l, w.length ≤ l.length := fun w hw => by
  have : ∀ (l : List Nat), (∀ w ∈ sp1 32 l, w.length ≤ l.length) ∧ (sp1 32 l).length ≤ l.length + 1 := by
    intro l
    induction l with
    | nil => simp [sp1]
    | cons x r ih =>
      simp only [sp1]
      split
      · refine ⟨fun w hw => ?_, by simp only [List.length_cons]; omega⟩
        rcases List.mem_cons.mp hw with rfl | hw
        · simp
        · have := ih.1 w hw
          simp only [List.length_cons]; omega
      · cases e : sp1 32 r with
        | nil => exact absurd e (sp1_ne 32 r)
        | cons p ps =>
          rw [e] at ih
          refine ⟨fun w hw => ?_, by have := ih.2; simp only [List.length_cons] at this ⊢; omega⟩
          rcases List.mem_cons.mp hw with rfl | hw
          · have := ih.1 p List.mem_cons_self
            simp only [List.length_cons]; omega
          · have := ih.1 w (List.mem_cons_of_mem _ hw)
            simp only [List.length_cons]; omega
  exact (this l).1 w (List.mem_filter.mp hw).1
theorem wd1_many (l : List Nat) : (wd1 l).length ≤ l.length + 1 := by
  have : ∀ (l : List Nat), (sp1 32 l).length ≤ l.length + 1 := by
    intro l
    induction l with
    | nil => simp [sp1]
    | cons x r ih =>
      simp only [sp1]
      split
      · simp only [List.length_cons]; omega
      · cases e : sp1 32 r with
        | nil => exact absurd e (sp1_ne 32 r)
        | cons p ps =>
          rw [e] at ih
          simp only [List.length_cons] at ih ⊢; omega
  have h := List.length_filter_le (fun w => !decide (w = [])) (sp1 32 l)
  have := this l
  unfold wd1
  omega
theorem wds_le (l : List Nat) : (wdsL l).length ≤ l.length + 1 ∧ ∀ w ∈ wdsL l, w.length ≤ l.length := by
  have a := ahd_len 35 l
  have b := wd1_many (ahd 35 l)
  refine ⟨by unfold wdsL; omega, fun w hw => ?_⟩
  have := wd1_len (ahd 35 l) w hw
  omega
theorem ixL {ls : List (List Nat)} {k : Nat} {l : List Nat} (hk : ls[k]? = some l) (h : Hq) : evIdx h (.d (.list (ls.map txS))) (.d (.int (k : Nat))) = .ok (.d (txS l)) h := by
  rw [idx_l, atZ_nat, List.getElem?_map, hk]
  rfl
def PrV (x0 : W) (n : Nat) (ls : List (List Nat)) (x3 x4 : Option W) : Vars := [some x0, some (.l n), some (.d (.list (ls.map txS))), x3, x4, none]
theorem parse_loop (n : Nat) (x0 : W) (h : Hq) {ls : List (List Nat)} (hL : ∀ l ∈ ls, l.length ≤ 900) (hn : ls.length ≤ 999) : ∀ (suf pre : List (List Nat)) (M : List (Str × List Int)) (x3 x4 : Option W), ls = pre ++ suf → M.length ≤ pre.length →
    (∀ M', prs M pre.length suf = .ok M' → ∃ y3 y4, forGo (fun w env h' => match bindT [3] false w env with
      | some env => evSs h.length (callN tab (n + 2)) parse_b0 env h'
      | none => .bad) ((List.range' pre.length suf.length).map (W.d ∘ ni)) (PrV x0 h.length ls x3 x4) (h ++ [.lst (M.map rowD)]) = .ok (.nx (PrV x0 h.length ls y3 y4)) (h ++ [.lst (M'.map rowD)])) ∧
    (∀ s k, prs M pre.length suf = .error (s, k) → ∃ o, forGo (fun w env h' => match bindT [3] false w env with
      | some env => evSs h.length (callN tab (n + 2)) parse_b0 env h'
      | none => .bad) ((List.range' pre.length suf.length).map (W.d ∘ ni)) (PrV x0 h.length ls x3 x4) (h ++ [.lst (M.map rowD)]) = .ex 1 [.str s, .int (k : Nat)] (h ++ [o])) := by
  intro suf
  induction suf with
  | nil =>
    intro pre M x3 x4 _ _
    exact ⟨fun M' e => by cases e; exact ⟨x3, x4, rfl⟩, fun s k e => by cases e⟩
  | cons l suf ih =>
    intro pre M x3 x4 er hM
    have lp : (pre ++ [l]).length = pre.length + 1 := by simp
    have hl : ls[pre.length]? = some l := by rw [er]; simp
    have l9 := hL l (List.mem_of_getElem? hl)
    have pl : pre.length < ls.length := (List.getElem?_eq_some_iff.mp hl).1
    obtain ⟨HH, hHH⟩ : ∃ HH, (h ++ [Ob.lst (M.map rowD)]) = HH := ⟨_, rfl⟩
    have i1 : HH[h.length]? = some (.lst (M.map rowD)) := by rw [← hHH]; exact last_at
    have wo := words_of_ok (n + 1) h.length HH (l := l) (by omega)
    have wle := wds_le l
    have wt : (W.d ∘ ni) pre.length = .d (.int (pre.length : Nat)) := rfl
    have ix := ixL hl HH
    have q0 : evS h.length (callN tab (n + 2)) parse_b0_s0 (PrV x0 h.length ls (some (.d (.int (pre.length : Nat)))) x4) HH = .ok (.nx (PrV x0 h.length ls (some (.d (.int (pre.length : Nat)))) (some (.d (.list ((wdsL l).map txS)))))) HH := by
      simp only [PrV, s_asg, x_call, x_cons, x_nil, x_idx, x_var, List.getElem?_cons_succ, List.getElem?_cons_zero, b_ok, ix, wo, bind_1, List.set_cons_succ, List.set_cons_zero]
    have bd : bindT [3] false (W.d (.int (pre.length : Nat))) (PrV x0 h.length ls x3 x4) = some (PrV x0 h.length ls (some (.d (.int (pre.length : Nat)))) x4) := rfl
    have ne : evCmp .NotEq (.list ((wdsL l).map txS)) (.list []) = some (.bool (!((wdsL l).map txS).isEmpty)) := ne_nil_l
    simp only [List.length_cons, List.range'_succ, List.map_cons, forGo, wt, bd, hHH, prs]
    by_cases z : wdsL l = []
    · have q1 : evS h.length (callN tab (n + 2)) parse_b0_s1 (PrV x0 h.length ls (some (.d (.int (pre.length : Nat)))) (some (.d (.list ((wdsL l).map txS))))) HH = .ok (.nx (PrV x0 h.length ls (some (.d (.int (pre.length : Nat)))) (some (.d (.list ((wdsL l).map txS)))))) HH := by
        have ze : ((wdsL l).map txS).isEmpty = true := by rw [z]; rfl
        simp only [PrV, s_ifs, x_cmp, x_var, x_lst, x_nil, List.getElem?_cons_succ, List.getElem?_cons_zero, b_ok, allD_0, cmp_d, ne, ze, Bool.not_true, liftO_s, s_nil]
      have bo : evSs h.length (callN tab (n + 2)) parse_b0 (PrV x0 h.length ls (some (.d (.int (pre.length : Nat)))) x4) HH = .ok (.nx (PrV x0 h.length ls (some (.d (.int (pre.length : Nat)))) (some (.d (.list ((wdsL l).map txS)))))) HH := by
        unfold parse_b0
        rw [seq_nx q0, seq_nx q1, s_nil]
      have ih := ih (pre ++ [l]) M (some (.d (.int (pre.length : Nat)))) (some (.d (.list ((wdsL l).map txS)))) (by rw [er]; simp) (by omega)
      rw [lp, hHH] at ih
      simp only [if_pos z, bo, b_ok]
      exact ih
    · have nz : ((wdsL l).map txS).isEmpty = false := by
        cases e : wdsL l with
        | nil => exact absurd e z
        | cons _ _ => rfl
      have nm : evE h.length (callN tab (n + 2)) (.lc 0 [5] false (.e (.var 1)) .none (.idx (.var 5) (.lit (.int 0)))) (PrV x0 h.length ls (some (.d (.int (pre.length : Nat)))) (some (.d (.list ((wdsL l).map txS))))) HH = .ok (.d (.list ((M.map (·.1)).map .str))) HH := by
        simp only [PrV, x_lc, x_ite, x_var, List.getElem?_cons_succ, List.getElem?_cons_zero, b_ok, it_o i1, live_l, List.map_map]
        rw [lc_map (emb := W.d ∘ rowD) (g := fun r => W.d (.str r.1))]
        · simp [Function.comp_def]
        · intro r _
          simp only [Function.comp, rowD, bind_1, List.set_cons_succ, List.set_cons_zero, x_none, b_ok, boolO_n, x_idx, x_var, x_lit, List.getElem?_cons_succ, List.getElem?_cons_zero, idx_t, atZ_0, liftO_s, kpt_s]
      have ws : ((wdsL l).map txS) = ((wdsL l).map SX.S).map .str := by rw [List.map_map]; rfl
      have mo := make_of_ok n h.length HH (num := pre.length + 1) (by omega) (ws := (wdsL l).map SX.S) (N := M.map (·.1)) (by simpa using z) (by rw [List.length_map]; omega) (fun w hw => by
        obtain ⟨y, hy, rfl⟩ := List.mem_map.mp hw
        rw [SX.S_len]
        have := wle.2 y hy
        omega)
      rw [← ws] at mo
      have pi : ((pre.length : Nat) : Int) + 1 = ((pre.length + 1 : Nat) : Int) := by omega
      simp only [if_neg z]
      cases e : mkR (M.map (·.1)) ((wdsL l).map SX.S) with
      | error s =>
        rw [e] at mo
        dsimp only
        refine ⟨fun M' y => (by cases y), fun s' k y => ?_⟩
        cases y
        refine ⟨.lst (M.map rowD), ?_⟩
        have q1 : evS h.length (callN tab (n + 2)) parse_b0_s1 (PrV x0 h.length ls (some (.d (.int (pre.length : Nat)))) (some (.d (.list ((wdsL l).map txS))))) HH = .ex 1 [.str s, .int ((pre.length + 1 : Nat) : Int)] HH := by
          have cd : evE h.length (callN tab (n + 2)) (.cmp .NotEq (.var 4) (.lst .nil)) (PrV x0 h.length ls (some (.d (.int (pre.length : Nat)))) (some (.d (.list ((wdsL l).map txS))))) HH = .ok (.d (.bool true)) HH := by
            simp only [PrV, x_cmp, x_var, x_lst, x_nil, List.getElem?_cons_succ, List.getElem?_cons_zero, b_ok, allD_0, cmp_d, ne, nz, Bool.not_false, liftO_s]
          have v1 : (PrV x0 h.length ls (some (.d (.int (pre.length : Nat)))) (some (.d (.list ((wdsL l).map txS)))))[1]? = some (some (.l h.length)) := rfl
          have v3 : (PrV x0 h.length ls (some (.d (.int (pre.length : Nat)))) (some (.d (.list ((wdsL l).map txS)))))[3]? = some (some (.d (.int (pre.length : Nat)))) := rfl
          have v4 : (PrV x0 h.length ls (some (.d (.int (pre.length : Nat)))) (some (.d (.list ((wdsL l).map txS)))))[4]? = some (some (.d (.list ((wdsL l).map txS)))) := rfl
          simp only [s_ifs, cd, b_ok, parse_b1, s_cons, s_app, x_var, v1, recvL_o i1, if_true, x_call, x_cons, x_bin, v3, x_lit, op2_d, add_i, liftO_s, pi, v4, nm, x_nil, mo, b_ex]
        have bo : evSs h.length (callN tab (n + 2)) parse_b0 (PrV x0 h.length ls (some (.d (.int (pre.length : Nat)))) x4) HH = .ex 1 [.str s, .int ((pre.length + 1 : Nat) : Int)] HH := by
          unfold parse_b0
          rw [seq_nx q0]
          simp only [s_cons, q1, b_ex]
        rw [hHH]
        simp only [bo, b_ex]
      | ok r =>
        rw [e] at mo
        dsimp only
        have ap := app_o (b := h.length) (x := rowD r) i1 (by rw [List.length_map]; omega)
        have st : HH.set h.length (.lst (M.map rowD ++ [rowD r])) = h ++ [.lst ((M ++ [r]).map rowD)] := by rw [← hHH]; simp
        rw [st] at ap
        have q1 : evS h.length (callN tab (n + 2)) parse_b0_s1 (PrV x0 h.length ls (some (.d (.int (pre.length : Nat)))) (some (.d (.list ((wdsL l).map txS))))) HH = .ok (.nx (PrV x0 h.length ls (some (.d (.int (pre.length : Nat)))) (some (.d (.list ((wdsL l).map txS)))))) (h ++ [.lst ((M ++ [r]).map rowD)]) := by
          have cd : evE h.length (callN tab (n + 2)) (.cmp .NotEq (.var 4) (.lst .nil)) (PrV x0 h.length ls (some (.d (.int (pre.length : Nat)))) (some (.d (.list ((wdsL l).map txS))))) HH = .ok (.d (.bool true)) HH := by
            simp only [PrV, x_cmp, x_var, x_lst, x_nil, List.getElem?_cons_succ, List.getElem?_cons_zero, b_ok, allD_0, cmp_d, ne, nz, Bool.not_false, liftO_s]
          have v1 : (PrV x0 h.length ls (some (.d (.int (pre.length : Nat)))) (some (.d (.list ((wdsL l).map txS)))))[1]? = some (some (.l h.length)) := rfl
          have v3 : (PrV x0 h.length ls (some (.d (.int (pre.length : Nat)))) (some (.d (.list ((wdsL l).map txS)))))[3]? = some (some (.d (.int (pre.length : Nat)))) := rfl
          have v4 : (PrV x0 h.length ls (some (.d (.int (pre.length : Nat)))) (some (.d (.list ((wdsL l).map txS)))))[4]? = some (some (.d (.list ((wdsL l).map txS)))) := rfl
          simp only [s_ifs, cd, b_ok, parse_b1, s_cons, s_app, x_var, v1, recvL_o i1, if_true, x_call, x_cons, x_bin, v3, x_lit, op2_d, add_i, liftO_s, pi, v4, nm, x_nil, mo, ap, s_nil]
        have bo : evSs h.length (callN tab (n + 2)) parse_b0 (PrV x0 h.length ls (some (.d (.int (pre.length : Nat)))) x4) HH = .ok (.nx (PrV x0 h.length ls (some (.d (.int (pre.length : Nat)))) (some (.d (.list ((wdsL l).map txS)))))) (h ++ [.lst ((M ++ [r]).map rowD)]) := by
          unfold parse_b0
          rw [seq_nx q0, seq_nx q1, s_nil]
        have ih := ih (pre ++ [l]) (M ++ [r]) (some (.d (.int (pre.length : Nat)))) (some (.d (.list ((wdsL l).map txS)))) (by rw [er]; simp) (by simp; omega)
        rw [lp] at ih
        simp only [bo, b_ok]
        exact ih
/-- the lines of a text, walked -/
theorem parse_lines (n : Nat) (h : Hq) {t : List Nat} {ls : List (List Nat)} (hs : sp1 10 t = ls) (ht : t.length ≤ 900000) (hL : ∀ l ∈ ls, l.length ≤ 900) (hn : ls.length ≤ 999) :
    (∀ M, prs [] 0 ls = .ok M → ∃ y3 y4, ∀ b, callN tab (n + 3) b 7 [.d (txS t)] h = finR true h.length (evSs h.length (callN tab (n + 2)) (.cons parse_s3 (.cons parse_s4 (.cons parse_s5 .nil))) (PrV (.d (txS t)) h.length ls y3 y4) (h ++ [.lst (M.map rowD)]))) ∧
    (∀ s k, prs [] 0 ls = .error (s, k) → ∀ b, callN tab (n + 3) b 7 [.d (txS t)] h = .ex 1 [.str s, .int (k : Nat)] h) := by
  have lp := parse_loop n (.d (txS t)) h hL hn ls [] [] none none rfl (by simp)
  have sp := split_e (l := t) (c := 10) (s := "\n") rfl (by omega) (by omega) (h ++ [Ob.lst []])
  rw [hs] at sp
  have q0 : evS h.length (callN tab (n + 2)) parse_s0 [some (.d (txS t)), none, none, none, none, none] h = .ok (.nx [some (.d (txS t)), some (.l h.length), none, none, none, none]) (h ++ [.lst []]) := by
    simp only [s_asg, x_lstM, x_nil, b_ok, allD_0, bind_1, List.set_cons_succ, List.set_cons_zero]
  have q1 : evS h.length (callN tab (n + 2)) parse_s1 [some (.d (txS t)), some (.l h.length), none, none, none, none] (h ++ [.lst []]) = .ok (.nx (PrV (.d (txS t)) h.length ls none none)) (h ++ [.lst []]) := by
    simp only [s_asg, x_mth, x_var, x_lit, x_cons, x_nil, List.getElem?_cons_succ, List.getElem?_cons_zero, b_ok, rcv_t, if_true, sp, bind_1, List.set_cons_succ, List.set_cons_zero]
    rfl
  have c1 : evIt h.length (callN tab (n + 2)) (.rg1 (.blt .len (.cons (.var 2) .nil))) (PrV (.d (txS t)) h.length ls none none) (h ++ [.lst []]) = .ok ((List.range' 0 ls.length).map (W.d ∘ ni), none) (h ++ [.lst []]) := by
    have rg := rg_nat (n := ls.length) (by omega)
    have ru := rangeUp_nat (n := ls.length)
    rw [List.range_eq_range'] at ru
    simp only [PrV, x_rg1, x_blt, x_cons, x_nil, x_var, List.getElem?_cons_succ, List.getElem?_cons_zero, b_ok, len_l, List.length_map, rg, if_true, ru]
  refine ⟨fun M e => ?_, fun s k e b => ?_⟩
  · obtain ⟨y3, y4, e1⟩ := lp.1 M e
    refine ⟨y3, y4, fun b => ?_⟩
    rw [call_of (fd := f_parse) _ _ rfl rfl]
    show finR true h.length (evSs h.length (callN tab (n + 2)) (.cons parse_s0 (.cons parse_s1 (.cons parse_s2 (.cons parse_s3 (.cons parse_s4 (.cons parse_s5 .nil)))))) [some (.d (txS t)), none, none, none, none, none] h) = _
    have q2 : evS h.length (callN tab (n + 2)) parse_s2 (PrV (.d (txS t)) h.length ls none none) (h ++ [.lst []]) = .ok (.nx (PrV (.d (txS t)) h.length ls y3 y4)) (h ++ [.lst (M.map rowD)]) := by
      rw [s_for, c1]
      simp only [b_ok, kpt_n]
      exact e1
    rw [seq_nx q0, seq_nx q1, seq_nx q2]
  · obtain ⟨o, e1⟩ := lp.2 s k e
    rw [call_of (fd := f_parse) _ _ rfl rfl]
    show finR true h.length (evSs h.length (callN tab (n + 2)) (.cons parse_s0 (.cons parse_s1 (.cons parse_s2 (.cons parse_s3 (.cons parse_s4 (.cons parse_s5 .nil)))))) [some (.d (txS t)), none, none, none, none, none] h) = _
    have q2 : evS h.length (callN tab (n + 2)) parse_s2 (PrV (.d (txS t)) h.length ls none none) (h ++ [.lst []]) = .ex 1 [.str s, .int (k : Nat)] (h ++ [o]) := by
      rw [s_for, c1]
      simp only [b_ok, kpt_n]
      exact e1
    rw [seq_nx q0, seq_nx q1]
    simp only [s_cons, q2, b_ex, finR_ex, if_true]
    rw [last_take]
end Ev

namespace Ev
open PySem
section
variable {rows : List (Str × List Int)}
theorem rais_0 (b : Nat) (C : CallF) (env : Vars) (h : Hq) {s : Str} (hs : s.length ≤ 1000) : evS b C (.raism 1 (.ad (.ad (.st 0) (.c ": ")) (.v 1)) 2 (.cons (.lit (.int 0)) (.cons (.lit (.str s)) .nil))) env h = .ex 1 [.str s, .int 0] h := rais_n b C env h (k := 0) (by omega) hs (by simp only [x_lit]; rfl)
/-- the ends, of a list that stands at a place -/
theorem endsL_ok (n b : Nat) {h : Hq} {i : Nat} (e : h[i]? = some (.lst (rows.map rowD))) (h1 : rows ≠ []) (h2 : rows.length ≤ 24) : callN tab (n + 1) b 1 [.l i] h = .ok (.d .none) h := by
  rw [call_of (fd := f_check_ends) _ _ rfl rfl]
  have l0 : ¬ ((rows.length : Nat) : Int) = 0 := by
    have := List.length_pos_iff.mpr h1
    omega
  have l24 : ¬ (24 : Int) < ((rows.length : Nat) : Int) := by omega
  show finR false h.length (evSs b (callN tab n) (.cons check_ends_s0 (.cons check_ends_s1 .nil)) [some (.l i)] h) = _
  have q0 : evS b (callN tab n) check_ends_s0 [some (.l i)] h = .ok (.nx [some (.l i)]) h := by
    simp only [s_ifs, x_cmp, x_blt, x_cons, x_nil, x_var, x_lit, List.getElem?_cons_zero, b_ok, len_o e, List.length_map, cmp_d, eq_d, dpt_i, Bool.true_or, eqv_i, l0, decide_false, liftO_s, s_nil]
  have q1 : evS b (callN tab n) check_ends_s1 [some (.l i)] h = .ok (.nx [some (.l i)]) h := by
    simp only [s_ifs, x_cmp, x_blt, x_cons, x_nil, x_var, x_glb, List.getElem?_cons_zero, b_ok, len_o e, List.length_map, cmp_d, gt_i, l24, decide_false, liftO_s, s_nil]
  rw [seq_nx q0, seq_nx q1, s_nil]
  rfl
theorem endsL_0 (n b : Nat) {h : Hq} {i : Nat} (e : h[i]? = some (.lst [])) : callN tab (n + 1) b 1 [.l i] h = .ex 1 [.str "no makes", .int 0] h := by
  rw [call_of (fd := f_check_ends) _ _ rfl rfl]
  have rs := rais_0 b (callN tab n) [some (.l i)] h (s := "no makes") (by decide +kernel)
  have e0 : evS b (callN tab n) check_ends_s0 [some (.l i)] h = .ex 1 [.str "no makes", .int 0] h := by
    have z : (([] : List PyData).length : Int) = 0 := rfl
    simp only [s_ifs, x_cmp, x_blt, x_cons, x_nil, x_var, x_lit, List.getElem?_cons_zero, b_ok, len_o e, cmp_d, eq_d, dpt_i, Bool.true_or, eqv_i, z, decide_true, liftO_s, check_ends_b0, s_cons, rs, b_ex]
  show finR false h.length (evSs b (callN tab n) (.cons check_ends_s0 (.cons check_ends_s1 .nil)) [some (.l i)] h) = _
  simp only [s_cons, e0, b_ex, finR_ex, Bool.false_eq_true, if_false]
theorem endsL_24 (n b : Nat) {h : Hq} {i : Nat} (e : h[i]? = some (.lst (rows.map rowD))) (h2 : 24 < rows.length) : callN tab (n + 1) b 1 [.l i] h = .ex 1 [.str "too many makes", .int 0] h := by
  rw [call_of (fd := f_check_ends) _ _ rfl rfl]
  have rs := rais_0 b (callN tab n) [some (.l i)] h (s := "too many makes") (by decide +kernel)
  have l0 : ¬ ((rows.length : Nat) : Int) = 0 := by omega
  have l24 : (24 : Int) < ((rows.length : Nat) : Int) := by omega
  have q0 : evS b (callN tab n) check_ends_s0 [some (.l i)] h = .ok (.nx [some (.l i)]) h := by
    simp only [s_ifs, x_cmp, x_blt, x_cons, x_nil, x_var, x_lit, List.getElem?_cons_zero, b_ok, len_o e, List.length_map, cmp_d, eq_d, dpt_i, Bool.true_or, eqv_i, l0, decide_false, liftO_s, s_nil]
  have e0 : evS b (callN tab n) check_ends_s1 [some (.l i)] h = .ex 1 [.str "too many makes", .int 0] h := by
    simp only [s_ifs, x_cmp, x_blt, x_cons, x_nil, x_var, x_glb, List.getElem?_cons_zero, b_ok, len_o e, List.length_map, cmp_d, gt_i, l24, decide_true, liftO_s, check_ends_b1, s_cons, rs, b_ex]
  show finR false h.length (evSs b (callN tab n) (.cons check_ends_s0 (.cons check_ends_s1 .nil)) [some (.l i)] h) = _
  rw [seq_nx q0]
  simp only [s_cons, e0, b_ex, finR_ex, Bool.false_eq_true, if_false]
theorem last_ok (n b : Nat) (h : Hq) (hR : Rows rows) (h1 : rows ≠ []) (h2 : rows.length ≤ 24) : callN tab (n + 2) b 2 [.d (.tuple (rows.map rowD))] h = if (anc rows (rows.length - 1)).length = rows.length then .ok (.d .none) h else .ex 1 [.str "not of the last", .int 0] h := by
  rw [call_of (fd := f_check_last) _ _ rfl rfl]
  have lp := List.length_pos_iff.mpr h1
  have rs := rais_0 b (callN tab (n + 1)) [some (.d (.tuple (rows.map rowD)))] h (s := "not of the last") (by decide +kernel)
  have an := ancestors_ok n b h hR h2 (m := rows.length - 1) (by omega)
  have c1 : ((rows.length : Nat) : Int) - 1 = ((rows.length - 1 : Nat) : Int) := by omega
  have hd : PyData.tuple [.str "history", .tuple (rows.map rowD)] = histD rows := rfl
  have ll : (sortI (anc rows (rows.length - 1))).length = (anc rows (rows.length - 1)).length := (sortI_perm _).length_eq
  have e0 : evE b (callN tab (n + 1)) (.cmp .NotEq (.blt .len (.cons (.call 3 (.cons (.tup (.cons (.lit (.str "history")) (.cons (.var 0) .nil))) (.cons (.bin .Sub (.blt .len (.cons (.var 0) .nil)) (.lit (.int 1))) .nil))) .nil)) (.blt .len (.cons (.var 0) .nil))) [some (.d (.tuple (rows.map rowD)))] h = .ok (.d (.bool (!decide ((anc rows (rows.length - 1)).length = rows.length)))) h := by
    simp only [x_cmp, x_blt, x_cons, x_nil, x_call, x_tup, x_lit, x_var, x_bin, List.getElem?_cons_zero, b_ok, allD_c, allD_0, Option.map_some, hd, len_t, List.length_map, op2_d, sub_i, liftO_s, c1, an, cmp_d, ll]
    simp
    omega
  show finR false h.length (evSs b (callN tab (n + 1)) (.cons check_last_s0 .nil) [some (.d (.tuple (rows.map rowD)))] h) = _
  by_cases z : (anc rows (rows.length - 1)).length = rows.length
  · rw [if_pos z, seq_nx (s := check_last_s0) (env' := [some (.d (.tuple (rows.map rowD)))]) (h' := h) (by rw [s_ifs, e0, b_ok]; simp [z])]
    simp
  · have e1 : evS b (callN tab (n + 1)) check_last_s0 [some (.d (.tuple (rows.map rowD)))] h = .ex 1 [.str "not of the last", .int 0] h := by
      rw [s_ifs, e0, b_ok]
      simp only [z, decide_false, Bool.not_false, check_last_b0, s_cons, rs, b_ex]
    rw [if_neg z]
    simp only [s_cons, e1, b_ex, finR_ex, Bool.false_eq_true, if_false]
theorem ancN_nd (hR : Rows rows) (m : Nat) : ∀ j, (ancN rows m j).Nodup
  | 0 => by simp [ancN]
  | j + 1 => by
    rw [show ancN rows m (j + 1) = anStep rows (ancN rows m j) (m - j) from rfl]
    unfold anStep
    have ih := ancN_nd hR m j
    split
    · rw [List.nodup_append]
      refine ⟨ih, (parI_nd hR _).sublist List.filter_sublist, fun a ha c hc e => ?_⟩
      have := (List.mem_filter.mp hc).2
      rw [← e] at this
      simp [ha] at this
    · exact ih
/-- the ancestors, ascending -/
theorem sort_anc (hR : Rows rows) {m : Nat} (hm : m < rows.length) : (sortI (anc rows m)).map PyData.int = ((List.range rows.length).filter fun c => Ab rows m c).map ni := by
  have e : sortI (anc rows m) = ((List.range rows.length).filter fun c => Ab rows m c).map fun c : Nat => (c : Int) := by
    refine asc_eq' ?_ ?_ fun x => ?_
    · have h1 := sortI_pw (anc rows m)
      have h2 : (sortI (anc rows m)).Nodup := (sortI_perm _).nodup_iff.mpr (ancN_nd hR m _)
      exact (List.pairwise_and_iff.mpr ⟨h1, h2⟩).imp fun h => by omega
    · rw [List.pairwise_map]
      exact (List.pairwise_lt_range.sublist List.filter_sublist).imp fun h => by omega
    · rw [mem_sortI, List.mem_map]
      constructor
      · intro hx
        have rg := ancN_rg hR m _ x hx
        obtain ⟨c, rfl⟩ : ∃ c : Nat, x = c := ⟨x.toNat, by omega⟩
        exact ⟨c, List.mem_filter.mpr ⟨List.mem_range.mpr (by omega), by unfold Ab; rw [decide_eq_true_eq]; exact hx⟩, rfl⟩
      · rintro ⟨c, hc, rfl⟩
        have := (List.mem_filter.mp hc).2
        unfold Ab at this
        rw [decide_eq_true_eq] at this
        exact this
  rw [e, List.map_map]
  rfl
theorem anc_full (hH : Hst rows) : (anc rows (rows.length - 1)).length = rows.length := by
  have lp := List.length_pos_iff.mpr hH.ne
  have e := congrArg List.length (sort_anc hH.R (m := rows.length - 1) (by omega))
  rw [List.length_map, List.length_map, (sortI_perm _).length_eq, List.filter_eq_self.mpr (fun c hc => Ab_all hH (m := rows.length - 1) (by omega) (by have := List.mem_range.mp hc; omega)), List.length_range] at e
  exact e
/-- a text whose lines tell a right history -/
theorem parse_ok (n b : Nat) (h : Hq) {t : List Nat} (ht : t.length ≤ 900000) (hL : ∀ l ∈ sp1 10 t, l.length ≤ 900) (hn : (sp1 10 t).length ≤ 999) (hH : Hst rows) (hr : rows.length ≤ 24) (e : prs [] 0 (sp1 10 t) = .ok rows) : callN tab (n + 3) b 7 [.d (txS t)] h = .ok (.d (histD rows)) h := by
  obtain ⟨y3, y4, q⟩ := (parse_lines n h rfl ht hL hn).1 rows e
  rw [q]
  have i1 : (h ++ [Ob.lst (rows.map rowD)])[h.length]? = some (.lst (rows.map rowD)) := last_at
  have en := endsL_ok (n + 1) h.length i1 hH.ne hr
  have la := last_ok n h.length (h ++ [.lst (rows.map rowD)]) hH.R hH.ne hr
  rw [if_pos (anc_full hH)] at la
  have q3 : evS h.length (callN tab (n + 2)) parse_s3 (PrV (.d (txS t)) h.length (sp1 10 t) y3 y4) (h ++ [.lst (rows.map rowD)]) = .ok (.nx (PrV (.d (txS t)) h.length (sp1 10 t) y3 y4)) (h ++ [.lst (rows.map rowD)]) := by
    simp only [PrV, s_expr, x_call, x_cons, x_nil, x_var, List.getElem?_cons_succ, List.getElem?_cons_zero, b_ok, en]
  have q4 : evS h.length (callN tab (n + 2)) parse_s4 (PrV (.d (txS t)) h.length (sp1 10 t) y3 y4) (h ++ [.lst (rows.map rowD)]) = .ok (.nx (PrV (.d (txS t)) h.length (sp1 10 t) y3 y4)) (h ++ [.lst (rows.map rowD)]) := by
    simp only [PrV, s_expr, x_call, x_cons, x_nil, x_blt, x_var, List.getElem?_cons_succ, List.getElem?_cons_zero, b_ok, tup_o i1, la]
  have q5 : evS h.length (callN tab (n + 2)) parse_s5 (PrV (.d (txS t)) h.length (sp1 10 t) y3 y4) (h ++ [.lst (rows.map rowD)]) = .ok (.rt (.d (histD rows))) (h ++ [.lst (rows.map rowD)]) := by
    simp only [PrV, s_ret, x_tup, x_cons, x_nil, x_lit, x_blt, x_var, List.getElem?_cons_succ, List.getElem?_cons_zero, b_ok, tup_o i1, allD_c, allD_0, Option.map_some]
    rfl
  rw [seq_nx q3, seq_nx q4, seq_rt q5]
  simp only [finR_rt, fin_t]
  rw [last_take]
/-- a text whose lines are refused -/
theorem parse_bad (n b : Nat) (h : Hq) {t : List Nat} (ht : t.length ≤ 900000) (hL : ∀ l ∈ sp1 10 t, l.length ≤ 900) (hn : (sp1 10 t).length ≤ 999) {s : Str} {k : Nat} (e : prs [] 0 (sp1 10 t) = .error (s, k)) : callN tab (n + 3) b 7 [.d (txS t)] h = .ex 1 [.str s, .int (k : Nat)] h := (parse_lines n h rfl ht hL hn).2 s k e b
end
end Ev

namespace Ev
open PySem
def toldN (s : Str) (k : Nat) : PyData := .tuple [.int (k : Nat), .str s]
theorem toldN_ex (n b : Nat) (h : Hq) {d : PyData} {s : Str} {k : Nat} (e : callN tab (n + 3) b 7 [.d d] h = .ex 1 [.str s, .int (k : Nat)] h) : callN tab (n + 4) b 16 [.d d] h = .ok (.d (toldN s k)) h := by
  rw [call_of (fd := f_law_told) _ _ rfl rfl]
  have e1 : evSs b (callN tab (n + 3)) law_told_b0 [some (.d d), none] h = .ex 1 [.str s, .int (k : Nat)] h := by
    simp only [law_told_b0, s_cons, s_expr, x_call, x_cons, x_nil, x_var, List.getElem?_cons_succ, List.getElem?_cons_zero, b_ok, e, b_ex]
  have e2 : evS b (callN tab (n + 3)) law_told_s0 [some (.d d), none] h = .ok (.rt (.d (toldN s k))) h := by
    rw [s_try_ex _ _ _ _ e1 rfl rfl]
    have x1 := fun cs => x_exis b (callN tab (n + 3)) [some (.d d), some (.x 1 [.str s, .int (k : Nat)])] h (i := 1) (cs := cs) (c := 1) (ds := [.str s, .int (k : Nat)]) rfl
    have x3 := x_exfld b (callN tab (n + 3)) [some (.d d), some (.x 1 [.str s, .int (k : Nat)])] h (i := 1) (js := [(1, 1)]) (c := 1) (ds := [.str s, .int (k : Nat)]) (j := 1) (d := .int (k : Nat)) rfl rfl rfl
    have x4 := x_exfld b (callN tab (n + 3)) [some (.d d), some (.x 1 [.str s, .int (k : Nat)])] h (i := 1) (js := [(1, 0)]) (c := 1) (ds := [.str s, .int (k : Nat)]) (j := 0) (d := .str s) rfl rfl rfl
    simp [setN, keepE, law_told_b1, x1, x3, x4, clrF, toldN]
  show finR false _ (evSs b (callN tab (n + 3)) (.cons law_told_s0 (.cons law_told_s1 .nil)) [some (.d d), none] h) = _
  rw [seq_rt e2]
  rfl
/-- a text whose makes are no history -/
theorem parse_end (n b : Nat) (h : Hq) {t : List Nat} (ht : t.length ≤ 900000) (hL : ∀ l ∈ sp1 10 t, l.length ≤ 900) (hn : (sp1 10 t).length ≤ 999) {M : List (Str × List Int)} (e : prs [] 0 (sp1 10 t) = .ok M) {s : Str} (he : ∀ (h : Hq) (i : Nat), h[i]? = some (.lst (M.map rowD)) → callN tab (n + 2) i 1 [.l i] h = .ex 1 [.str s, .int 0] h) : callN tab (n + 3) b 7 [.d (txS t)] h = .ex 1 [.str s, .int 0] h := by
  obtain ⟨y3, y4, q⟩ := (parse_lines n h rfl ht hL hn).1 M e
  rw [q]
  have i1 : (h ++ [Ob.lst (M.map rowD)])[h.length]? = some (.lst (M.map rowD)) := last_at
  have en := he (h ++ [.lst (M.map rowD)]) h.length i1
  have q3 : evS h.length (callN tab (n + 2)) parse_s3 (PrV (.d (txS t)) h.length (sp1 10 t) y3 y4) (h ++ [.lst (M.map rowD)]) = .ex 1 [.str s, .int 0] (h ++ [.lst (M.map rowD)]) := by
    simp only [PrV, s_expr, x_call, x_cons, x_nil, x_var, List.getElem?_cons_succ, List.getElem?_cons_zero, b_ok, en, b_ex]
  simp only [s_cons, q3, b_ex, finR_ex, if_true]
  rw [last_take]
theorem parse_last (n b : Nat) (h : Hq) {t : List Nat} (ht : t.length ≤ 900000) (hL : ∀ l ∈ sp1 10 t, l.length ≤ 900) (hn : (sp1 10 t).length ≤ 999) {M : List (Str × List Int)} (e : prs [] 0 (sp1 10 t) = .ok M) (hR : Rows M) (h1 : M ≠ []) (h2 : M.length ≤ 24) (hx : ¬ (anc M (M.length - 1)).length = M.length) : callN tab (n + 3) b 7 [.d (txS t)] h = .ex 1 [.str "not of the last", .int 0] h := by
  obtain ⟨y3, y4, q⟩ := (parse_lines n h rfl ht hL hn).1 M e
  rw [q]
  have i1 : (h ++ [Ob.lst (M.map rowD)])[h.length]? = some (.lst (M.map rowD)) := last_at
  have en := endsL_ok (n + 1) h.length i1 h1 h2
  have la := last_ok n h.length (h ++ [.lst (M.map rowD)]) hR h1 h2
  rw [if_neg hx] at la
  have q3 : evS h.length (callN tab (n + 2)) parse_s3 (PrV (.d (txS t)) h.length (sp1 10 t) y3 y4) (h ++ [.lst (M.map rowD)]) = .ok (.nx (PrV (.d (txS t)) h.length (sp1 10 t) y3 y4)) (h ++ [.lst (M.map rowD)]) := by
    simp only [PrV, s_expr, x_call, x_cons, x_nil, x_var, List.getElem?_cons_succ, List.getElem?_cons_zero, b_ok, en]
  have q4 : evS h.length (callN tab (n + 2)) parse_s4 (PrV (.d (txS t)) h.length (sp1 10 t) y3 y4) (h ++ [.lst (M.map rowD)]) = .ex 1 [.str "not of the last", .int 0] (h ++ [.lst (M.map rowD)]) := by
    simp only [PrV, s_expr, x_call, x_cons, x_nil, x_blt, x_var, List.getElem?_cons_succ, List.getElem?_cons_zero, b_ok, tup_o i1, la, b_ex]
  rw [seq_nx q3]
  simp only [s_cons, q4, b_ex, finR_ex, if_true]
  rw [last_take]
/-! the wrong lines -/
abbrev cd (s : Str) : List Nat := s.cps.toList
theorem S_cd (s : Str) : SX.S (cd s) = s := SX.S_tl s
theorem nm_tS (s : Str) : PyData.str s = txS (cd s) := tS_of s
def wrgs : List (Str × Str) := [("mak f", "unknown line"), ("Make f", "unknown line"), ("from a", "unknown line"), ("f", "unknown line"), ("makef from a", "unknown line"), ("make", "wrong number of words"), ("make f a", "wrong number of words"), ("make f from", "wrong number of words"), ("make f of a", "wrong number of words"), ("make f a from b", "wrong number of words"), ("make F a", "wrong number of words"), ("make F", "bad name"), ("make f1 from a", "bad name"), ("make abcdefghi", "bad name"), ("make f! from zz", "bad name"), ("make a\tb", "bad name"), ("make a", "two of a name"), ("make e from a a", "two of a name"), ("make b from zz", "two of a name"), ("make f from zz", "unknown make"), ("make f from f", "unknown make"), ("make f from a A", "unknown make"), ("make f from a zz a", "unknown make"), ("make f from a a", "twice a parent"), ("make f from b a b zz", "twice a parent"), ("make f from a b c d a", "twice a parent"), ("make f from a b c d e", "too many parents"), ("make from from e d c b a # x", "too many parents")]
def nms5 : List Str := ["a", "b", "c", "d", "e"]
def refs' (N : List Str) (l : List Nat) (s : Str) : Bool := !decide (wdsL l = []) && (match mkR N ((wdsL l).map SX.S) with
  | .error t => decide (t = s)
  | .ok _ => false)
theorem refs_prs {M : List (Str × List Int)} {l : List Nat} {s : Str} (h : refs' (M.map (·.1)) l s = true) (num : Nat) (ls : List (List Nat)) : prs M num (l :: ls) = .error (s, num + 1) := by
  unfold refs' at h
  rw [Bool.and_eq_true, Bool.not_eq_true', decide_eq_false_iff_not] at h
  simp only [prs, if_neg h.1]
  cases e : mkR (M.map (·.1)) ((wdsL l).map SX.S) with
  | ok r => rw [e] at h; cases h.2
  | error t =>
    rw [e] at h
    rw [of_decide_eq_true h.2]
theorem wrgs_ok : ∀ p ∈ wrgs, refs' nms5 (cd p.1) p.2 = true ∧ refs' nms5 (32 :: cd p.1) p.2 = true ∧ 10 ∉ cd p.1 ∧ (cd p.1).length ≤ 40 ∧ p.2.length ≤ 30 ∧ ∀ c ∈ cd p.2, c < 16 ^ 8 := by decide +kernel
def wrgA (i : Nat) : List (Str × Str) := wrgs.take i
abbrev prD (p : Str × Str) : PyData := .tuple [.str p.1, .str p.2]
theorem lst_prs (b : Nat) (C : CallF) (env : Vars) (h : Hq) : ∀ (ps : List (Str × Str)), evEs b C (ps.foldr (fun p es => .cons (.tup (.cons (.lit (.str p.1)) (.cons (.lit (.str p.2)) .nil))) es) .nil) env h = .ok (ps.map fun p => .d (prD p)) h
  | [] => by simp only [List.foldr_nil, x_nil, List.map_nil]
  | p :: ps => by
    rw [List.foldr_cons, x_cons, x_tup, x_cons, x_lit, b_ok, x_cons, x_lit, b_ok, x_nil, b_ok, b_ok, b_ok]
    simp only [allD_c, allD_0, Option.map_some, b_ok, lst_prs b C env h ps, List.map_cons]
theorem allD_prs : ∀ (ps : List (Str × Str)), allD (ps.map fun p => .d (prD p)) = some (ps.map prD)
  | [] => rfl
  | p :: ps => by rw [List.map_cons, allD_c, allD_prs ps]; rfl
theorem lst_pr (b : Nat) (C : CallF) (env : Vars) (h : Hq) (ps : List (Str × Str)) : evE b C (.lst (ps.foldr (fun p es => .cons (.tup (.cons (.lit (.str p.1)) (.cons (.lit (.str p.2)) .nil))) es) .nil)) env h = .ok (.d (.list (ps.map prD))) h := by
  rw [x_lst, lst_prs, b_ok, allD_prs]
theorem wrong_ok (n b : Nat) (h : Hq) : callN tab (n + 1) b 17 [] h = .ok (.d (.list (wrgs.map prD))) h := by
  rw [call_of (fd := f_law_wrong) _ _ rfl rfl]
  have ad : ∀ (xs ys : List (Str × Str)), xs.length + ys.length ≤ 100 → evBin .Add (.list (xs.map prD)) (.list (ys.map prD)) = some (.list ((xs ++ ys).map prD)) := fun xs ys hl => by
    simp only [evBin, List.length_map]
    rw [if_pos (by unfold SZ; omega), List.map_append]
  have st : ∀ (xs ys : List (Str × Str)), xs.length + ys.length ≤ 100 → evE b (callN tab n) (.bin .Add (.var 0) (.lst (ys.foldr (fun p es => .cons (.tup (.cons (.lit (.str p.1)) (.cons (.lit (.str p.2)) .nil))) es) .nil))) [some (.d (.list (xs.map prD)))] h = .ok (.d (.list ((xs ++ ys).map prD))) h := fun xs ys hl => by
    simp only [x_bin, x_var, List.getElem?_cons_zero, b_ok, lst_pr, op2_d, ad xs ys hl, liftO_s]
  have s0 : evS b (callN tab n) law_wrong_s0 [none] h = .ok (.nx [some (.d (.list ((wrgs.take 5).map prD)))]) h := by
    rw [s_asg]
    refine Eq.trans (congrArg (fun r : R W => r.bind _) (lst_pr b (callN tab n) [none] h (wrgs.take 5))) ?_
    rfl
  have s1 : evS b (callN tab n) law_wrong_s1 [some (.d (.list ((wrgs.take 5).map prD)))] h = .ok (.nx [some (.d (.list ((wrgs.take 8).map prD)))]) h := by
    rw [s_asg]
    refine Eq.trans (congrArg (fun r : R W => r.bind _) (st (wrgs.take 5) ((wrgs.drop 5).take 3) (by decide))) ?_
    rfl
  have s2 : evS b (callN tab n) law_wrong_s2 [some (.d (.list ((wrgs.take 8).map prD)))] h = .ok (.nx [some (.d (.list ((wrgs.take 11).map prD)))]) h := by
    rw [s_asg]
    refine Eq.trans (congrArg (fun r : R W => r.bind _) (st (wrgs.take 8) ((wrgs.drop 8).take 3) (by decide))) ?_
    rfl
  have s3 : evS b (callN tab n) law_wrong_s3 [some (.d (.list ((wrgs.take 11).map prD)))] h = .ok (.nx [some (.d (.list ((wrgs.take 16).map prD)))]) h := by
    rw [s_asg]
    refine Eq.trans (congrArg (fun r : R W => r.bind _) (st (wrgs.take 11) ((wrgs.drop 11).take 5) (by decide))) ?_
    rfl
  have s4 : evS b (callN tab n) law_wrong_s4 [some (.d (.list ((wrgs.take 16).map prD)))] h = .ok (.nx [some (.d (.list ((wrgs.take 19).map prD)))]) h := by
    rw [s_asg]
    refine Eq.trans (congrArg (fun r : R W => r.bind _) (st (wrgs.take 16) ((wrgs.drop 16).take 3) (by decide))) ?_
    rfl
  have s5 : evS b (callN tab n) law_wrong_s5 [some (.d (.list ((wrgs.take 19).map prD)))] h = .ok (.nx [some (.d (.list ((wrgs.take 23).map prD)))]) h := by
    rw [s_asg]
    refine Eq.trans (congrArg (fun r : R W => r.bind _) (st (wrgs.take 19) ((wrgs.drop 19).take 4) (by decide))) ?_
    rfl
  have s6 : evS b (callN tab n) law_wrong_s6 [some (.d (.list ((wrgs.take 23).map prD)))] h = .ok (.nx [some (.d (.list ((wrgs.take 26).map prD)))]) h := by
    rw [s_asg]
    refine Eq.trans (congrArg (fun r : R W => r.bind _) (st (wrgs.take 23) ((wrgs.drop 23).take 3) (by decide))) ?_
    rfl
  have s7 : evS b (callN tab n) law_wrong_s7 [some (.d (.list ((wrgs.take 26).map prD)))] h = .ok (.rt (.d (.list (wrgs.map prD)))) h := by
    rw [s_ret]
    refine Eq.trans (congrArg (fun r : R W => r.bind _) (st (wrgs.take 26) ((wrgs.drop 26).take 2) (by decide))) ?_
    rfl
  show finR false _ (evSs b (callN tab n) (.cons law_wrong_s0 (.cons law_wrong_s1 (.cons law_wrong_s2 (.cons law_wrong_s3 (.cons law_wrong_s4 (.cons law_wrong_s5 (.cons law_wrong_s6 (.cons law_wrong_s7 .nil)))))))) [none] h) = _
  rw [seq_nx s0, seq_nx s1, seq_nx s2, seq_nx s3, seq_nx s4, seq_nx s5, seq_nx s6, seq_rt s7]
  rfl
end Ev

namespace Ev
open PySem
def okL (N : List Str) (l : List Nat) (x : Str) : Bool := !decide (wdsL l = []) && (match mkR N ((wdsL l).map SX.S) with
  | .ok r => decide (r.1 = x)
  | .error _ => false)
theorem ok_prs {M : List (Str × List Int)} {l : List Nat} {x : Str} (h : okL (M.map (·.1)) l x = true) (num : Nat) : ∃ r : Str × List Int, r.1 = x ∧ prs M num [l] = .ok (M ++ [r]) := by
  unfold okL at h
  rw [Bool.and_eq_true, Bool.not_eq_true', decide_eq_false_iff_not] at h
  cases e : mkR (M.map (·.1)) ((wdsL l).map SX.S) with
  | error s => rw [e] at h; cases h.2
  | ok r =>
    rw [e] at h
    refine ⟨r, of_decide_eq_true h.2, ?_⟩
    simp only [prs, if_neg h.1, e]
def hdl (k : Nat) : List Nat := cd "make " ++ [97 + k]
def hdl2 (k j : Nat) : List Nat := hdl k ++ cd " from " ++ [97 + j]
theorem heads_ok : ∀ k ∈ List.range 5, okL (nms5.take k) (hdl k) (SX.S [97 + k]) = true ∧ nms5.take (k + 1) = nms5.take k ++ [SX.S [97 + k]] ∧ 10 ∉ hdl k ∧ (hdl k).length ≤ 20 ∧ chr "abcde" k = SX.S [97 + k] ∧ ∀ j ∈ List.range k, okL (nms5.take k) (hdl2 k j) (SX.S [97 + k]) = true ∧ 10 ∉ hdl2 k j ∧ (hdl2 k j).length ≤ 30 ∧ chr "abcd" j = SX.S [97 + j] := by decide +kernel
def jnkL : List Str := ["", "   ", "# make a", "#"]
theorem jnk_ok : ∀ s ∈ jnkL, 10 ∉ cd s ∧ (cd s).length ≤ 40 ∧ wdsL (cd s) = [] := by decide +kernel
theorem prs_junk {M : List (Str × List Int)} {num : Nat} {l : List Nat} (h : wdsL l = []) : prs M num [l] = .ok M := by
  simp only [prs, if_pos h]
theorem mem_str {L : List Str} {x : PyData} (h : x ∈ L.map PyData.str) : ∃ s ∈ L, x = .str s := by
  obtain ⟨s, hs, rfl⟩ := List.mem_map.mp h
  exact ⟨s, hs, rfl⟩
/-- lines that tell the first makes -/
structure HL (k m : Nat) (ls : List (List Nat)) : Prop where
  no : ∀ l ∈ ls, 10 ∉ l ∧ l.length ≤ 60
  ln : ls.length ≤ m
  ok : ∃ M : List (Str × List Int), prs [] 0 ls = .ok M ∧ M.map (·.1) = nms5.take k
theorem HL.junk {k m m' : Nat} {ls : List (List Nat)} (i : HL k m ls) {l : List Nat} (h1 : 10 ∉ l) (h2 : l.length ≤ 60) (hm : m + 1 ≤ m') (hp : wdsL l = []) : HL k m' (ls ++ [l]) := by
  obtain ⟨M, e, en⟩ := i.ok
  refine ⟨fun x hx => ?_, by have := i.ln; simp; omega, M, ?_, en⟩
  · rcases List.mem_append.mp hx with hx | hx
    · exact i.no x hx
    · rw [List.mem_singleton.mp hx]; exact ⟨h1, h2⟩
  · rw [prs_app, e]
    exact prs_junk hp
theorem HL.put {k m m' : Nat} {ls : List (List Nat)} (i : HL k m ls) {l : List Nat} {x : Str} (h1 : 10 ∉ l) (h2 : l.length ≤ 60) (hm : m + 1 ≤ m') (hp : okL (nms5.take k) l x = true) (hx : nms5.take (k + 1) = nms5.take k ++ [x]) : HL (k + 1) m' (ls ++ [l]) := by
  obtain ⟨M, e, en⟩ := i.ok
  rw [← en] at hp
  obtain ⟨r, er, e2⟩ := ok_prs hp (0 + ls.length)
  refine ⟨fun x hx => ?_, by have := i.ln; simp; omega, M ++ [r], ?_, ?_⟩
  · rcases List.mem_append.mp hx with hx | hx
    · exact i.no x hx
    · rw [List.mem_singleton.mp hx]; exact ⟨h1, h2⟩
  · rw [prs_app, e]
    exact e2
  · rw [List.map_append, en, hx]
    simp [er]
def LHp (bx : Ob) (t : Hq) (ls : List (List Nat)) : Hq := bx :: (t ++ [.lst (ls.map txS)])
section
variable {bx : Ob} {t : Hq} {ls : List (List Nat)}
theorem lh_at : (LHp bx t ls)[t.length + 1]? = some (.lst (ls.map txS)) := by simp [LHp]
theorem lh_set (ls' : List (List Nat)) : (LHp bx t ls).set (t.length + 1) (.lst (ls'.map txS)) = LHp bx t ls' := by simp [LHp]
theorem lh_app {b : Nat} (l : List Nat) (hl : ls.length ≤ 1000) : evApp b (.l (t.length + 1)) (.d (txS l)) (LHp bx t ls) = .ok () (LHp bx t (ls ++ [l])) := by
  rw [app_o lh_at (by rw [List.length_map]; omega)]
  have : ls.map txS ++ [txS l] = (ls ++ [l]).map txS := by simp
  rw [this, lh_set]
end
def HdV (p : Nat) (x2 x3 x4 : Option W) : Vars := [some (.l 0), some (.l p), x2, x3, x4]
theorem head_turn (n b : Nat) {bx : Ob} (t : Hq) (hb : IsBox bx) {k : Nat} (hk : k < 5) {ls : List (List Nat)} (i : HL k (3 * k) ls) (x3 x4 : Option W) : ∃ bx' ls' y3 y4, IsBox bx' ∧ HL (k + 1) (3 * (k + 1)) ls' ∧ evSs b (callN tab (n + 2)) law_head_b0 (HdV (t.length + 1) (some (.d (.int (k : Nat)))) x3 x4) (LHp bx t ls) = .ok (.nx (HdV (t.length + 1) (some (.d (.int (k : Nat)))) y3 y4)) (LHp bx' t ls') := by
  have hh := heads_ok k (List.mem_range.mpr hk)
  obtain ⟨v, bx1, v0, v1, hb1, e1⟩ := draw_ok (n + 1) b (t ++ [.lst (ls.map txS)]) hb (m := 3) (by decide)
  obtain ⟨N, rfl⟩ : ∃ N : Nat, v = (N : Int) := ⟨v.toNat, by omega⟩
  have e1 : callN tab (n + 2) b 10 [.l 0, .d (.int 3)] (LHp bx t ls) = .ok (.d (.int (N : Nat))) (LHp bx1 t ls) := e1
  obtain ⟨env', h', e2, bx2, ls2, y3, hb2, i2, rfl, rfl⟩ := for_up (f := fun w env h' => match bindT [3] false w env with
      | some env => evSs b (callN tab (n + 2)) law_head_b1 env h'
      | none => .bad) N (fun j env h' => ∃ bx' ls' y3, IsBox bx' ∧ HL k (3 * k + j) ls' ∧ env = HdV (t.length + 1) (some (.d (.int (k : Nat)))) y3 x4 ∧ h' = LHp bx' t ls')
      (env := HdV (t.length + 1) (some (.d (.int (k : Nat)))) x3 x4) (h := LHp bx1 t ls) ⟨bx1, ls, x3, hb1, i, rfl, rfl⟩ fun j env h' hj iv => by
        obtain ⟨bx', ls', y3, hb', i', rfl, rfl⟩ := iv
        obtain ⟨x, hx, bx3, hb3, e3⟩ := pick_ok n b (t ++ [.lst (ls'.map txS)]) (jnkL.map PyData.str) hb' (by decide)
        obtain ⟨s, hs, rfl⟩ := mem_str hx
        have js := jnk_ok s hs
        have e3 : callN tab (n + 2) b 11 [.l 0, .d (.list [.str "", .str "   ", .str "# make a", .str "#"])] (LHp bx' t ls') = .ok (.d (.str s)) (LHp bx3 t ls') := e3
        have il := i'.ln
        have ap := lh_app (bx := bx3) (t := t) (ls := ls') (b := b) (cd s) (by omega)
        rw [← nm_tS s] at ap
        refine ⟨_, _, ?_, bx3, ls' ++ [cd s], some (.d (.int (j : Nat))), hb3, i'.junk js.1 (by omega) (by omega) js.2.2, rfl, rfl⟩
        simp only [HdV, bind_1, List.set_cons_succ, List.set_cons_zero, law_head_b1, s_cons, s_app, x_var, List.getElem?_cons_succ, List.getElem?_cons_zero, b_ok, recvL_o lh_at, if_true, x_call, x_cons, x_lst, x_lit, x_nil, allD_c, allD_0, Option.map_some, e3, ap, s_nil]
  have q0 : evS b (callN tab (n + 2)) law_head_b0_s0 (HdV (t.length + 1) (some (.d (.int (k : Nat)))) x3 x4) (LHp bx t ls) = .ok (.nx (HdV (t.length + 1) (some (.d (.int (k : Nat)))) y3 x4)) (LHp bx2 t ls2) := by
    have c1 : evIt b (callN tab (n + 2)) (.rg1 (.call 10 (.cons (.var 0) (.cons (.lit (.int 3)) .nil)))) (HdV (t.length + 1) (some (.d (.int (k : Nat)))) x3 x4) (LHp bx t ls) = .ok (rangeUp 0 (N : Int), none) (LHp bx1 t ls) := by
      simp only [HdV, x_rg1, x_call, x_cons, x_nil, x_var, x_lit, List.getElem?_cons_succ, List.getElem?_cons_zero, b_ok, e1, rg_nat (n := N) (by omega), if_true]
    rw [s_for, c1]
    exact e2
  have c5 : (cd "make ").length = 5 := by decide +kernel
  have ix : evIdx (LHp bx2 t ls2) (.d (.str "abcde")) (.d (.int (k : Nat))) = .ok (.d (txS [97 + k])) (LHp bx2 t ls2) := by
    rw [idx_str (s := "abcde") (by decide +kernel) (Nat.lt_of_lt_of_le hk (by decide +kernel)), hh.2.2.2.2.1]
  have a1 : evBin .Add (.str "make ") (txS [97 + k]) = some (txS (hdl k)) := by
    rw [nm_tS "make "]
    exact add_e (by rw [List.length_singleton]; omega)
  have q1 : evS b (callN tab (n + 2)) law_head_b0_s1 (HdV (t.length + 1) (some (.d (.int (k : Nat)))) y3 x4) (LHp bx2 t ls2) = .ok (.nx (HdV (t.length + 1) (some (.d (.int (k : Nat)))) y3 (some (.d (txS (hdl k)))))) (LHp bx2 t ls2) := by
    simp only [HdV, s_asg, x_bin, x_lit, x_idx, x_var, List.getElem?_cons_succ, List.getElem?_cons_zero, b_ok, ix, op2_d, a1, liftO_s, bind_1, List.set_cons_succ, List.set_cons_zero]
  obtain ⟨bx4, l, hb4, hl10, hlen, hok, q2⟩ : ∃ (bx4 : Ob) (l : List Nat), IsBox bx4 ∧ 10 ∉ l ∧ l.length ≤ 60 ∧ okL (nms5.take k) l (SX.S [97 + k]) = true ∧ evS b (callN tab (n + 2)) law_head_b0_s2 (HdV (t.length + 1) (some (.d (.int (k : Nat)))) y3 (some (.d (txS (hdl k))))) (LHp bx2 t ls2) = .ok (.nx (HdV (t.length + 1) (some (.d (.int (k : Nat)))) y3 (some (.d (txS l))))) (LHp bx4 t ls2) := by
    by_cases z : 0 < k
    · have z' : (0 : Int) < ((k : Nat) : Int) := by omega
      obtain ⟨w, bx3, w0, w1, hb3, e3⟩ := draw_ok (n + 1) b (t ++ [.lst (ls2.map txS)]) hb2 (m := 3) (by decide)
      have e3 : callN tab (n + 2) b 10 [.l 0, .d (.int 3)] (LHp bx2 t ls2) = .ok (.d (.int w)) (LHp bx3 t ls2) := e3
      by_cases zw : 0 < w
      · obtain ⟨u, bx4, u0, u1, hb4, e4⟩ := draw_ok (n + 1) b (t ++ [.lst (ls2.map txS)]) hb3 (m := ((k : Nat) : Int)) (by omega)
        obtain ⟨j, rfl⟩ : ∃ j : Nat, u = (j : Int) := ⟨u.toNat, by omega⟩
        have e4 : callN tab (n + 2) b 10 [.l 0, .d (.int (k : Nat))] (LHp bx3 t ls2) = .ok (.d (.int (j : Nat))) (LHp bx4 t ls2) := e4
        have hj := hh.2.2.2.2.2 j (List.mem_range.mpr (by omega))
        have ix2 : evIdx (LHp bx4 t ls2) (.d (.str "abcd")) (.d (.int (j : Nat))) = .ok (.d (txS [97 + j])) (LHp bx4 t ls2) := by
          rw [idx_str (s := "abcd") (by decide +kernel) (Nat.lt_of_lt_of_le (show j < 4 by omega) (by decide +kernel)), hj.2.2.2]
        have c6 : (cd " from ").length = 6 := by decide +kernel
        have a2 : evBin .Add (txS (hdl k)) (.str " from ") = some (txS (hdl k ++ cd " from ")) := by
          rw [nm_tS " from "]
          exact add_e (by have := hh.2.2.2.1; omega)
        have a3 : evBin .Add (txS (hdl k ++ cd " from ")) (txS [97 + j]) = some (txS (hdl2 k j)) := add_e (by have := hh.2.2.2.1; rw [List.length_append, List.length_singleton]; omega)
        refine ⟨bx4, hdl2 k j, hb4, hj.2.1, by have := hj.2.2.1; omega, hj.1, ?_⟩
        simp only [HdV, s_ifs, x_and, x_one, x_cmp, x_var, x_lit, List.getElem?_cons_succ, List.getElem?_cons_zero, b_ok, cmp_d, gt_i, z', decide_true, liftO_s, x_call, x_cons, x_nil, e3, zw, law_head_b2, s_cons, s_asg, x_bin, op2_d, a2, x_idx, e4, ix2, a3, bind_1, List.set_cons_succ, List.set_cons_zero, s_nil]
      · refine ⟨bx3, hdl k, hb3, hh.2.2.1, by have := hh.2.2.2.1; omega, hh.1, ?_⟩
        simp only [HdV, s_ifs, x_and, x_one, x_cmp, x_var, x_lit, List.getElem?_cons_succ, List.getElem?_cons_zero, b_ok, cmp_d, gt_i, z', decide_true, liftO_s, x_call, x_cons, x_nil, e3, zw, decide_false, s_nil]
    · have z' : ¬ (0 : Int) < ((k : Nat) : Int) := by omega
      refine ⟨bx2, hdl k, hb2, hh.2.2.1, by have := hh.2.2.2.1; omega, hh.1, ?_⟩
      simp only [HdV, s_ifs, x_and, x_one, x_cmp, x_var, x_lit, List.getElem?_cons_succ, List.getElem?_cons_zero, b_ok, cmp_d, gt_i, z', decide_false, liftO_s, s_nil]
  have il := i2.ln
  have ap := lh_app (bx := bx4) (t := t) (ls := ls2) (b := b) l (by omega)
  have q3 : evS b (callN tab (n + 2)) law_head_b0_s3 (HdV (t.length + 1) (some (.d (.int (k : Nat)))) y3 (some (.d (txS l)))) (LHp bx4 t ls2) = .ok (.nx (HdV (t.length + 1) (some (.d (.int (k : Nat)))) y3 (some (.d (txS l))))) (LHp bx4 t (ls2 ++ [l])) := by
    simp only [HdV, s_app, x_var, List.getElem?_cons_succ, List.getElem?_cons_zero, b_ok, recvL_o lh_at, if_true, ap]
  refine ⟨bx4, ls2 ++ [l], y3, some (.d (txS l)), hb4, i2.put hl10 hlen (by omega) hok hh.2.1, ?_⟩
  show evSs b (callN tab (n + 2)) (.cons law_head_b0_s0 (.cons law_head_b0_s1 (.cons law_head_b0_s2 (.cons law_head_b0_s3 .nil)))) _ _ = _
  rw [seq_nx q0, seq_nx q1, seq_nx q2, seq_nx q3, s_nil]
theorem head_ok (n b : Nat) {bx : Ob} (t : Hq) (hb : IsBox bx) : ∃ bx' ls, IsBox bx' ∧ HL 5 15 ls ∧ callN tab (n + 3) b 18 [.l 0] (bx :: t) = .ok (.l (t.length + 1)) (LHp bx' t ls) := by
  obtain ⟨env', h', e, bx', ls, x2, y3, y4, hb', i, rfl, rfl⟩ := for_up (f := fun w env h' => match bindT [2] false w env with
      | some env => evSs b (callN tab (n + 2)) law_head_b0 env h'
      | none => .bad) 5 (fun j env h' => ∃ bx' ls x2 y3 y4, IsBox bx' ∧ HL j (3 * j) ls ∧ env = HdV (t.length + 1) x2 y3 y4 ∧ h' = LHp bx' t ls)
      (env := HdV (t.length + 1) none none none) (h := LHp bx t []) ⟨bx, [], none, none, none, hb, ⟨by simp, by simp, [], rfl, rfl⟩, rfl, rfl⟩ fun j env h' hj iv => by
        obtain ⟨bx', ls, x2, y3, y4, hb', i, rfl, rfl⟩ := iv
        obtain ⟨bx2, ls2, z3, z4, hb2, i2, e⟩ := head_turn n b t hb' hj i y3 y4
        exact ⟨_, _, e, bx2, ls2, some (.d (.int (j : Nat))), z3, z4, hb2, i2, rfl, rfl⟩
  refine ⟨bx', ls, hb', i, ?_⟩
  rw [call_of (fd := f_law_head) _ _ rfl rfl]
  have q0 : evS b (callN tab (n + 2)) law_head_s0 [some (.l 0), none, none, none, none] (bx :: t) = .ok (.nx (HdV (t.length + 1) none none none)) (LHp bx t []) := by
    simp only [s_asg, x_lstM, x_nil, b_ok, allD_0, bind_1, List.set_cons_succ, List.set_cons_zero]
    rfl
  have q1 : evS b (callN tab (n + 2)) law_head_s1 (HdV (t.length + 1) none none none) (LHp bx t []) = .ok (.nx (HdV (t.length + 1) x2 y3 y4)) (LHp bx' t ls) := by
    have c1 : evIt b (callN tab (n + 2)) (.rg1 (.lit (.int 5))) (HdV (t.length + 1) none none none) (LHp bx t []) = .ok (rangeUp 0 ((5 : Nat) : Int), none) (LHp bx t []) := by
      have rg : rgOk 0 5 = true := rg_nat (n := 5) (by omega)
      simp only [x_rg1, x_lit, b_ok, rg, if_true]
      rfl
    rw [s_for, c1]
    exact e
  show finR false _ (evSs b (callN tab (n + 2)) (.cons law_head_s0 (.cons law_head_s1 (.cons law_head_s2 .nil))) [some (.l 0), none, none, none, none] (bx :: t)) = _
  rw [seq_nx q0, seq_nx q1]
  simp only [HdV, s_cons, s_ret, x_var, List.getElem?_cons_succ, List.getElem?_cons_zero, b_ok]
  rfl
end Ev

namespace Ev
open PySem
def endsL : List Str := ["", "make", "zz", "make a", "make q from zz"]
theorem ends_no : ∀ s ∈ endsL, 10 ∉ cd s ∧ (cd s).length ≤ 20 := by decide +kernel
def junk2 : List Str := ["", "# "]
theorem junk2_ok : ∀ s ∈ junk2, 10 ∉ cd s ∧ (cd s).length ≤ 40 ∧ wdsL (cd s) = [] := by decide +kernel
theorem sm_told {s : Str} {k : Nat} (h1 : s.length ≤ 100) (hs : ∀ c ∈ s.cps.toList, c < 16 ^ 8) (hk : k ≤ 1000) : Sm 100000 1 (toldN s k) :=
  (sm_tup (k := 2000) (j := 0) (ds := [.int (k : Nat), .str s]) fun d hd => by
    simp only [List.mem_cons, List.not_mem_nil, or_false] at hd
    rcases hd with rfl | rfl
    · exact (sm_int (by rw [Int.natAbs_natCast]; exact Nat.lt_of_le_of_lt hk (by decide +kernel))).mono (by omega) (by omega)
    · exact (sm_str hs).mono (by omega) (by omega)).mono (by simp) (by omega)
theorem op2_l {f : PyData → PyData → Option PyData} {h : Hq} {p : Nat} {xs : List PyData} {d : PyData} (e : h[p]? = some (.lst xs)) : op2 f (.l p) (.d d) h = liftO (f (.list xs) d) h := by
  simp only [op2, toD, e]
theorem spl_10 {parts : List (List Nat)} (hne : parts ≠ []) (h : ∀ p ∈ parts, 10 ∉ p) : sp1 10 (TL.joinL [10] parts) = parts := by
  rw [← spl_e]
  exact SX.spl_join (c := 10) (sep := []) hne h
def LW (x0 : Option W) (line reason : Str) (x4 x5 x6 : Option W) : Vars := [x0, some (.l 0), some (.d (.str line)), some (.d (.str reason)), x4, x5, x6]
theorem law_turn (n : Nat) {bx : Ob} (t : Hq) (hb : IsBox bx) {p : Str × Str} (hp : p ∈ wrgs) (x0 x4 x5 x6 : Option W) : ∃ bx' t' y4 y5 y6, IsBox bx' ∧ evSs 0 (callN tab (n + 4)) law_b0 (LW x0 p.1 p.2 x4 x5 x6) (bx :: t) = .ok (.nx (LW x0 p.1 p.2 y4 y5 y6)) (bx' :: t') := by
  obtain ⟨w1, w2, w3, w4, w5, w6⟩ := wrgs_ok p hp
  obtain ⟨bx1, ls1, hb1, i1, e1⟩ := head_ok (n + 1) 0 t hb
  obtain ⟨v, bx2, v0, v1, hb2, e2⟩ := draw_ok (n + 3) 0 (t ++ [.lst (ls1.map txS)]) hb1 (m := 2) (by decide)
  obtain ⟨N, rfl⟩ : ∃ N : Nat, v = (N : Int) := ⟨v.toNat, by omega⟩
  have e2 : callN tab (n + 4) 0 10 [.l 0, .d (.int 2)] (LHp bx1 t ls1) = .ok (.d (.int (N : Nat))) (LHp bx2 t ls1) := e2
  have q0 : evS 0 (callN tab (n + 4)) law_b0_s0 (LW x0 p.1 p.2 x4 x5 x6) (bx :: t) = .ok (.nx (LW x0 p.1 p.2 (some (.l (t.length + 1))) x5 x6)) (LHp bx1 t ls1) := by
    simp only [LW, s_asg, x_call, x_cons, x_nil, x_var, List.getElem?_cons_succ, List.getElem?_cons_zero, b_ok, e1, bind_1, List.set_cons_succ, List.set_cons_zero]
  obtain ⟨env', h', e3, bx3, ls, y5, hb3, i, rfl, rfl⟩ := for_up (f := fun w env h' => match bindT [5] false w env with
      | some env => evSs 0 (callN tab (n + 4)) law_b1 env h'
      | none => .bad) N (fun j env h' => ∃ bx' ls y5, IsBox bx' ∧ HL 5 (15 + j) ls ∧ env = LW x0 p.1 p.2 (some (.l (t.length + 1))) y5 x6 ∧ h' = LHp bx' t ls)
      (env := LW x0 p.1 p.2 (some (.l (t.length + 1))) x5 x6) (h := LHp bx2 t ls1) ⟨bx2, ls1, x5, hb2, i1, rfl, rfl⟩ fun j env h' hj iv => by
        obtain ⟨bx', ls', y5, hb', i', rfl, rfl⟩ := iv
        obtain ⟨x, hx, bx4, hb4, e4⟩ := pick_ok (n + 2) 0 (t ++ [.lst (ls'.map txS)]) (junk2.map PyData.str) hb' (by decide)
        obtain ⟨s, hs, rfl⟩ := mem_str hx
        have js := junk2_ok s hs
        have e4 : callN tab (n + 4) 0 11 [.l 0, .d (.list [.str "", .str "# "])] (LHp bx' t ls') = .ok (.d (.str s)) (LHp bx4 t ls') := e4
        have il := i'.ln
        have ap := lh_app (bx := bx4) (t := t) (ls := ls') (b := 0) (cd s) (by omega)
        rw [← nm_tS s] at ap
        refine ⟨_, _, ?_, bx4, ls' ++ [cd s], some (.d (.int (j : Nat))), hb4, i'.junk js.1 (by omega) (by omega) js.2.2, rfl, rfl⟩
        simp only [LW, bind_1, List.set_cons_succ, List.set_cons_zero, law_b1, s_cons, s_app, x_var, List.getElem?_cons_succ, List.getElem?_cons_zero, b_ok, recvL_o lh_at, if_true, x_call, x_cons, x_lst, x_lit, x_nil, allD_c, allD_0, Option.map_some, e4, ap, s_nil]
  have q1 : evS 0 (callN tab (n + 4)) law_b0_s1 (LW x0 p.1 p.2 (some (.l (t.length + 1))) x5 x6) (LHp bx1 t ls1) = .ok (.nx (LW x0 p.1 p.2 (some (.l (t.length + 1))) y5 x6)) (LHp bx3 t ls) := by
    have c1 : evIt 0 (callN tab (n + 4)) (.rg1 (.call 10 (.cons (.var 1) (.cons (.lit (.int 2)) .nil)))) (LW x0 p.1 p.2 (some (.l (t.length + 1))) x5 x6) (LHp bx1 t ls1) = .ok (rangeUp 0 (N : Int), none) (LHp bx2 t ls1) := by
      simp only [LW, x_rg1, x_call, x_cons, x_nil, x_var, x_lit, List.getElem?_cons_succ, List.getElem?_cons_zero, b_ok, e2, rg_nat (n := N) (by omega), if_true]
    rw [s_for, c1]
    exact e3
  obtain ⟨a, bx4, a0, a1, hb4, e4⟩ := draw_ok (n + 3) 0 (t ++ [.lst (ls.map txS)]) hb3 (m := 2) (by decide)
  have e4 : callN tab (n + 4) 0 10 [.l 0, .d (.int 2)] (LHp bx3 t ls) = .ok (.d (.int a)) (LHp bx4 t ls) := e4
  obtain ⟨x, hx, bx5, hb5, e5⟩ := pick_ok (n + 2) 0 (t ++ [.lst (ls.map txS)]) (endsL.map PyData.str) hb4 (by decide)
  obtain ⟨z, hz, rfl⟩ := mem_str hx
  have ez := ends_no z hz
  have e5 : callN tab (n + 4) 0 11 [.l 0, .d (.list [.str "", .str "make", .str "zz", .str "make a", .str "make q from zz"])] (LHp bx4 t ls) = .ok (.d (.str z)) (LHp bx5 t ls) := e5
  obtain ⟨L, hL⟩ : ∃ L, (if a = 0 then cd p.1 else 32 :: cd p.1) = L := ⟨_, rfl⟩
  have Lr : refs' nms5 L p.2 = true := by
    rw [← hL]
    split
    · exact w1
    · exact w2
  have L10 : 10 ∉ L := by
    rw [← hL]
    split
    · exact w3
    · intro z
      rcases List.mem_cons.mp z with z | z
      · omega
      · exact w3 z
  have Ll : L.length ≤ 41 := by
    rw [← hL]
    split
    · omega
    · rw [List.length_cons]; omega
  have mu : ∃ m : List Nat, evBin .Mult (.str " ") (.int a) = some (txS m) ∧ m ++ cd p.1 = L ∧ m.length ≤ 1 := by
    have : a = 0 ∨ a = 1 := by omega
    have one : ∀ A : Nat, repOk (Str.length " ") ((A : Nat) : Int) = true → repS " " ((A : Nat) : Int) = SX.S (List.replicate A 32) → evBin .Mult (.str " ") (.int (A : Nat)) = some (txS (List.replicate A 32)) := fun A h1 h2 => by
      simp only [evBin, h1, if_true, h2]
    rcases this with rfl | rfl
    · exact ⟨[], one 0 (by decide +kernel) (by decide +kernel), by rw [← hL]; rfl, by simp⟩
    · exact ⟨[32], one 1 (by decide +kernel) (by decide +kernel), by rw [← hL]; rfl, by simp⟩
  obtain ⟨m, mu, mL, ml⟩ := mu
  have ad : evBin .Add (txS m) (.str p.1) = some (txS L) := by
    rw [nm_tS p.1, add_e (by omega), mL]
  have il := i.ln
  obtain ⟨P, hP⟩ : ∃ P, ls ++ [L, cd z] = P := ⟨_, rfl⟩
  have Pl : P.length ≤ 19 := by rw [← hP]; simp; omega
  have Pm : ∀ y ∈ P, 10 ∉ y ∧ y.length ≤ 60 := fun y hy => by
    rw [← hP] at hy
    rcases List.mem_append.mp hy with hy | hy
    · exact i.no y hy
    · simp only [List.mem_cons, List.not_mem_nil, or_false] at hy
      rcases hy with rfl | rfl
      · exact ⟨L10, by omega⟩
      · exact ⟨ez.1, by omega⟩
  have ap : evBin .Add (.list (ls.map txS)) (.list [txS L, .str z]) = some (.list (P.map txS)) := by
    simp only [evBin]
    rw [if_pos (by rw [List.length_map]; simp [SZ]; omega), ← hP, List.map_append, nm_tS z]
    rfl
  have je := join_e (a := [10]) (s := "\n") (ys := P) (m := 60) rfl (fun y hy => (Pm y hy).2) (by
    have : P.length * 60 ≤ 19 * 60 := Nat.mul_le_mul Pl (by omega)
    rw [List.length_singleton]
    omega) (LHp bx5 t ls)
  obtain ⟨J, hJ⟩ : ∃ J, TL.joinL [10] P = J := ⟨_, rfl⟩
  rw [hJ] at je
  have sp : sp1 10 J = P := by
    rw [← hJ]
    exact spl_10 (by rw [← hP]; simp) fun y hy => (Pm y hy).1
  have jl := joinL_len (S := [10]) (m := 60) (ws := P) fun y hy => (Pm y hy).2
  rw [hJ, List.length_singleton] at jl
  have jb : P.length * (60 + 1) ≤ 19 * 61 := Nat.mul_le_mul Pl (by omega)
  have pe : prs [] 0 (sp1 10 J) = .error (p.2, ls.length + 1) := by
    obtain ⟨M, eM, en⟩ := i.ok
    rw [sp, ← hP, prs_app, eM]
    have en5 : M.map (·.1) = nms5 := en
    have := refs_prs (M := M) (l := L) (s := p.2) (by rw [en5]; exact Lr) (0 + ls.length) [cd z]
    rw [Nat.zero_add] at this ⊢
    exact this
  have pb := parse_bad (n + 0) 0 (LHp bx5 t ls) (t := J) (by omega) (fun y hy => by rw [sp] at hy; have := (Pm y hy).2; omega) (by rw [sp]; omega) pe
  have tl := toldN_ex n 0 (LHp bx5 t ls) (pb)
  have sm := same_ok (n + 3) 0 (LHp bx5 t ls) (sm_told (s := p.2) (k := ls.length + 1) (by omega) (fun c hc => w6 c hc) (by omega))
  have ln := len_o (lh_at (bx := bx5) (t := t) (ls := ls))
  rw [List.length_map] at ln
  have l1 : ((ls.length : Nat) : Int) + 1 = ((ls.length + 1 : Nat) : Int) := by omega
  have td : PyData.tuple [.int ((ls.length + 1 : Nat) : Int), .str p.2] = toldN p.2 (ls.length + 1) := rfl
  have q2 : evS 0 (callN tab (n + 4)) law_b0_s2 (LW x0 p.1 p.2 (some (.l (t.length + 1))) y5 x6) (LHp bx3 t ls) = .ok (.nx (LW x0 p.1 p.2 (some (.l (t.length + 1))) y5 (some (.d (txS J))))) (LHp bx5 t ls) := by
    simp only [LW, s_asg, x_mth, x_lit, b_ok, rcv_j, if_true, x_cons, x_bin, x_var, x_lst, x_call, x_nil, List.getElem?_cons_succ, List.getElem?_cons_zero, e4, op2_d, mu, ad, liftO_s, allD_c, allD_0, Option.map_some, e5, op2_l lh_at, ap, je, bind_1, List.set_cons_succ, List.set_cons_zero]
  have q3 : evS 0 (callN tab (n + 4)) law_b0_s3 (LW x0 p.1 p.2 (some (.l (t.length + 1))) y5 (some (.d (txS J)))) (LHp bx5 t ls) = .ok (.nx (LW x0 p.1 p.2 (some (.l (t.length + 1))) y5 (some (.d (txS J))))) (LHp bx5 t ls) := by
    simp only [LW, s_ifs, x_nt, x_call, x_cons, x_nil, x_tup, x_bin, x_blt, x_var, x_lit, List.getElem?_cons_succ, List.getElem?_cons_zero, b_ok, tl, ln, op2_d, add_i, liftO_s, l1, allD_c, allD_0, Option.map_some, td, sm, Bool.not_true, s_nil]
  refine ⟨bx5, t ++ [.lst (ls.map txS)], some (.l (t.length + 1)), y5, some (.d (txS J)), hb5, ?_⟩
  show evSs 0 (callN tab (n + 4)) (.cons law_b0_s0 (.cons law_b0_s1 (.cons law_b0_s2 (.cons law_b0_s3 .nil)))) _ _ = _
  rw [seq_nx q0, seq_nx q1, seq_nx q2, seq_nx q3, s_nil]
  rfl
end Ev

namespace Ev
open PySem
def clC (k : Nat) : List Nat := (cd "make " ++ [97 + k]) ++ (if 0 < k then cd " from " ++ [97 + (k - 1)] else [])
def chainC : List Nat := flt ((List.range 25).map clC)
def whs : List (Str × Str) := [("", "no makes"), ("\n\n", "no makes"), ("# make a\n", "no makes"), (SX.S chainC, "too many makes"), (SX.S (chainC ++ cd "make z\n"), "too many makes"), ("make a\nmake b\n", "not of the last"), ("make a\nmake b from a\nmake c from a\n", "not of the last")]
def okT (t : List Nat) : Bool := decide (t.length ≤ 90000) && ((sp1 10 t).all fun l => decide (l.length ≤ 900)) && decide ((sp1 10 t).length ≤ 999)
theorem okT_ok {t : List Nat} (h : okT t = true) : t.length ≤ 900000 ∧ (∀ l ∈ sp1 10 t, l.length ≤ 900) ∧ (sp1 10 t).length ≤ 999 := by
  unfold okT at h
  simp only [Bool.and_eq_true, decide_eq_true_eq, List.all_eq_true] at h
  exact ⟨by omega, h.1.2, h.2⟩
def prsN (t : List Nat) : Option Nat := match prs [] 0 (sp1 10 t) with
  | .ok M => some M.length
  | .error _ => none
theorem prsN_ok {t : List Nat} {n : Nat} (h : prsN t = some n) : ∃ M, prs [] 0 (sp1 10 t) = .ok M ∧ M.length = n := by
  unfold prsN at h
  cases e : prs [] 0 (sp1 10 t) with
  | error _ => rw [e] at h; cases h
  | ok M => rw [e] at h; exact ⟨M, rfl, Option.some.inj h⟩
theorem pars5_0 (N : List Str) : pars5 N [] = .ok [] := by simp [pars5, pars, sortI]
theorem pars5_1 {N : List Str} {y : Str} {j : Nat} (h : ixN N y = some j) : pars5 N [y] = .ok [(j : Int)] := by simp [pars5, pars, h, sortI]
theorem mk0 {N : List Str} {x : Str} (h1 : isNm x = true) (h2 : x ∉ N) : mkR N [("make" : Str), x] = .ok (x, []) := by
  have a0 : ([("make" : Str), x])[0]?.getD ("" : Str) = "make" := rfl
  have a1 : ([("make" : Str), x])[1]?.getD ("" : Str) = x := rfl
  have d3 : ([("make" : Str), x]).drop 3 = [] := rfl
  unfold mkR
  rw [if_pos a0, a1, if_neg (by simp), if_neg (by rw [h1]; decide), if_neg h2, d3, pars5_0]
theorem mk1 {N : List Str} {x y : Str} {j : Nat} (h1 : isNm x = true) (h2 : x ∉ N) (hj : ixN N y = some j) : mkR N [("make" : Str), x, ("from" : Str), y] = .ok (x, [(j : Int)]) := by
  have a0 : ([("make" : Str), x, ("from" : Str), y])[0]?.getD ("" : Str) = "make" := rfl
  have a1 : ([("make" : Str), x, ("from" : Str), y])[1]?.getD ("" : Str) = x := rfl
  have a2 : ([("make" : Str), x, ("from" : Str), y])[2]?.getD ("" : Str) = "from" := rfl
  have d3 : ([("make" : Str), x, ("from" : Str), y]).drop 3 = [y] := rfl
  unfold mkR
  rw [if_pos a0, a1, a2, if_neg (by simp), if_neg (by rw [h1]; decide), if_neg h2, d3, pars5_1 hj]
def rw1 : List (Str × List Int) := [("a", []), ("b", [])]
def rw2 : List (Str × List Int) := [("a", []), ("b", [0]), ("c", [0])]
theorem prs_put {M : List (Str × List Int)} {num : Nat} {l : List Nat} {ls : List (List Nat)} {ws : List Str} {r : Str × List Int} (hw : (wdsL l).map SX.S = ws) (h0 : ws ≠ []) (hm : mkR (M.map (·.1)) ws = .ok r) : prs M num (l :: ls) = prs (M ++ [r]) (num + 1) ls := by
  have n0 : ¬ wdsL l = [] := fun z => by rw [z] at hw; exact h0 hw.symm
  simp only [prs, if_neg n0, hw, hm]
theorem prs_rw1 : prs [] 0 (sp1 10 (cd "make a\nmake b\n")) = .ok rw1 := by
  have e : sp1 10 (cd "make a\nmake b\n") = [cd "make a", cd "make b", []] := by decide +kernel
  rw [e, prs_put (ws := [("make" : Str), "a"]) (r := (("a" : Str), [])) (by decide +kernel) (by simp) (mk0 (by decide +kernel) (by decide +kernel)), prs_put (ws := [("make" : Str), "b"]) (r := (("b" : Str), [])) (by decide +kernel) (by simp) (mk0 (by decide +kernel) (by decide +kernel))]
  rfl
theorem prs_rw2 : prs [] 0 (sp1 10 (cd "make a\nmake b from a\nmake c from a\n")) = .ok rw2 := by
  have e : sp1 10 (cd "make a\nmake b from a\nmake c from a\n") = [cd "make a", cd "make b from a", cd "make c from a", []] := by decide +kernel
  rw [e, prs_put (ws := [("make" : Str), "a"]) (r := (("a" : Str), [])) (by decide +kernel) (by simp) (mk0 (by decide +kernel) (by decide +kernel)), prs_put (ws := [("make" : Str), "b", "from", "a"]) (r := (("b" : Str), [0])) (by decide +kernel) (by simp) (mk1 (j := 0) (by decide +kernel) (by decide +kernel) (by decide +kernel)), prs_put (ws := [("make" : Str), "c", "from", "a"]) (r := (("c" : Str), [0])) (by decide +kernel) (by simp) (mk1 (j := 0) (by decide +kernel) (by decide +kernel) (by decide +kernel))]
  rfl
theorem rows1 : Rows rw1 := ⟨fun k r e => by
  match k, e with
  | 0, e => cases e; exact ⟨by simp, by simp⟩
  | 1, e => cases e; exact ⟨by simp, by simp⟩
  | k + 2, e => cases e⟩
theorem rows2 : Rows rw2 := ⟨fun k r e => by
  match k, e with
  | 0, e => cases e; exact ⟨by simp, by simp⟩
  | 1, e => cases e; exact ⟨by simp, by simp⟩
  | 2, e => cases e; exact ⟨by simp, by simp⟩
  | k + 3, e => cases e⟩
theorem whs_parse (n b : Nat) (h : Hq) : ∀ p ∈ whs, callN tab (n + 3) b 7 [.d (.str p.1)] h = .ex 1 [.str p.2, .int 0] h := fun p hp => by
  have none_ : ∀ (s : Str), okT (cd s) = true → prsN (cd s) = some 0 → callN tab (n + 3) b 7 [.d (.str s)] h = .ex 1 [.str "no makes", .int 0] h := fun s h1 h2 => by
    obtain ⟨a1, a2, a3⟩ := okT_ok h1
    obtain ⟨M, e, el⟩ := prsN_ok h2
    have m0 : M = [] := List.length_eq_zero_iff.mp el
    subst m0
    rw [nm_tS s]
    exact parse_end n b h a1 a2 a3 e fun h i e => endsL_0 (n + 1) i e
  have many : ∀ (t : List Nat) (m : Nat), okT t = true → prsN t = some m → 24 < m → callN tab (n + 3) b 7 [.d (.str (SX.S t))] h = .ex 1 [.str "too many makes", .int 0] h := fun t m h1 h2 hm => by
    obtain ⟨a1, a2, a3⟩ := okT_ok h1
    obtain ⟨M, e, el⟩ := prsN_ok h2
    exact parse_end n b h a1 a2 a3 e fun h i e => endsL_24 (n + 1) i e (by omega)
  simp only [whs, List.mem_cons, List.not_mem_nil, or_false] at hp
  rcases hp with rfl | rfl | rfl | rfl | rfl | rfl | rfl
  · exact none_ "" (by decide +kernel) (by decide +kernel)
  · exact none_ "\n\n" (by decide +kernel) (by decide +kernel)
  · exact none_ "# make a\n" (by decide +kernel) (by decide +kernel)
  · exact many chainC 25 (by decide +kernel) (by decide +kernel) (by omega)
  · exact many (chainC ++ cd "make z\n") 26 (by decide +kernel) (by decide +kernel) (by omega)
  · have o := okT_ok (t := cd "make a\nmake b\n") (by decide +kernel)
    show callN tab (n + 3) b 7 [.d (.str "make a\nmake b\n")] h = _
    rw [nm_tS "make a\nmake b\n"]
    exact parse_last n b h o.1 o.2.1 o.2.2 prs_rw1 rows1 (by decide) (by decide) (by decide +kernel)
  · have o := okT_ok (t := cd "make a\nmake b from a\nmake c from a\n") (by decide +kernel)
    show callN tab (n + 3) b 7 [.d (.str "make a\nmake b from a\nmake c from a\n")] h = _
    rw [nm_tS "make a\nmake b from a\nmake c from a\n"]
    exact parse_last n b h o.1 o.2.1 o.2.2 prs_rw2 rows2 (by decide) (by decide) (by decide +kernel)
theorem whs_sm : ∀ p ∈ whs, p.2.length ≤ 100 ∧ ∀ c ∈ p.2.cps.toList, c < 16 ^ 8 := fun p hp => by
  have r : p.2 ∈ ([("no makes" : Str), "too many makes", "not of the last"] : List Str) := by
    simp only [whs, List.mem_cons, List.not_mem_nil, or_false] at hp
    rcases hp with rfl | rfl | rfl | rfl | rfl | rfl | rfl <;> simp
  have a : ∀ s ∈ ([("no makes" : Str), "too many makes", "not of the last"] : List Str), s.length ≤ 100 ∧ ∀ c ∈ s.cps.toList, c < 16 ^ 8 := by decide +kernel
  exact a _ r
theorem alpha_at : ∀ k ∈ List.range 25, chr alpha k = SX.S [97 + k] := by decide +kernel
theorem alpha_len : alpha.length ≤ SZ ∧ alpha.cps.toList.length = 26 := by decide +kernel
theorem cl_len : ∀ k ∈ List.range 25, (clC k).length ≤ 13 := by decide +kernel
theorem wholes_ok (n b : Nat) (h : Hq) : callN tab (n + 1) b 19 [.l 0] h = .ok (.d (.list (whs.map prD))) h := by
  rw [call_of (fd := f_law_wholes) _ _ rfl rfl]
  have c5 : (cd "make ").length = 5 := by decide +kernel
  have c6 : (cd " from ").length = 6 := by decide +kernel
  have ixn : ∀ k, k < 25 → evIdx h (.d (.str alpha)) (.d (.int (k : Nat))) = .ok (.d (txS [97 + k])) h := fun k hk => by
    rw [idx_str alpha_len.1 (by rw [alpha_len.2]; omega), alpha_at k (List.mem_range.mpr hk)]
  have ixm : evIdx h (.d (.str alpha)) (.d (.int (-1))) = .ok (.d (txS [122])) h := by
    have e1 : atZ alpha.cps.toList (-1) = some 122 := by decide +kernel
    simp only [evIdx, if_pos alpha_len.1, e1]
  have mu0 : ∀ s : Str, s.length ≤ 100 → evBin .Mult (.str s) (.int 0) = some (.str "") := fun s hs => by
    have r : repOk s.length 0 = true := by unfold repOk; exact decide_eq_true ⟨by omega, by omega, by simp [SZ]⟩
    have e : repS s 0 = "" := by unfold repS; rw [if_pos (by omega)]; rfl
    simp only [evBin, r, if_true, e]
  have mu1 : ∀ s : Str, s.length ≤ 100 → evBin .Mult (.str s) (.int 1) = some (.str s) := fun s hs => by
    have r : repOk s.length 1 = true := by unfold repOk; exact decide_eq_true ⟨by omega, by omega, by simp [SZ]; omega⟩
    have e : repS s 1 = s := by unfold repS; rw [if_neg (by omega), if_pos (by simp)]
    simp only [evBin, r, if_true, e]
  have lc : ∀ x2 : Option W, evE b (callN tab n) (.lc 0 [3] false (.rg1 (.lit (.int 25))) .none (.bin .Add (.bin .Add (.bin .Add (.lit (.str "make ")) (.idx (.var 1) (.var 3))) (.bin .Mult (.bin .Add (.lit (.str " from ")) (.idx (.var 1) (.bin .Sub (.var 3) (.lit (.int 1))))) (.blt .int (.cons (.cmp .Gt (.var 3) (.lit (.int 0))) .nil)))) (.lit (.str "\n")))) [some (.l 0), some (.d (.str alpha)), x2, none, none] h = .ok (.d (.list (((List.range 25).map fun k => clC k ++ [10]).map txS))) h := fun x2 => by
    have rg : rgOk 0 25 = true := rg_nat (n := 25) (by omega)
    have ru := rangeUp_nat (n := 25)
    have ru : rangeUp 0 25 = (List.range 25).map (W.d ∘ ni) := ru
    simp only [x_lc, x_rg1, x_lit, b_ok, rg, if_true, kpt_n, ru]
    rw [lc_map (emb := W.d ∘ ni) (g := W.d ∘ fun k => txS (clC k ++ [10]))]
    · simp [Function.comp_def]
    · intro k hk
      have hk := List.mem_range.mp hk
      have wt : (W.d ∘ ni) k = .d (.int (k : Nat)) := rfl
      have a1 : evBin .Add (.str "make ") (txS [97 + k]) = some (txS (cd "make " ++ [97 + k])) := by
        rw [nm_tS "make "]
        exact add_e (by rw [List.length_singleton]; omega)
      have a4 : evBin .Add (txS (clC k)) (.str "\n") = some (txS (clC k ++ [10])) := add_e (b := [10]) (by have := cl_len k (List.mem_range.mpr hk); rw [List.length_singleton]; omega)
      have a2 : ∀ c : Nat, evBin .Add (.str " from ") (txS [c]) = some (txS (cd " from " ++ [c])) := fun c => by
        rw [nm_tS " from "]
        exact add_e (by rw [List.length_singleton]; omega)
      have ls : ∀ c : Nat, (SX.S (cd " from " ++ [c])).length ≤ 100 := fun c => by rw [SX.S_len, List.length_append, List.length_singleton]; omega
      by_cases z : 0 < k
      · have z' : (0 : Int) < ((k : Nat) : Int) := by omega
        have k1 : ((k : Nat) : Int) - 1 = ((k - 1 : Nat) : Int) := by omega
        have m1 := mu1 (SX.S (cd " from " ++ [97 + (k - 1)])) (ls _)
        have a3 : evBin .Add (txS (cd "make " ++ [97 + k])) (txS (cd " from " ++ [97 + (k - 1)])) = some (txS (clC k)) := by
          rw [add_e (by simp only [List.length_append, List.length_singleton]; omega)]
          unfold clC
          rw [if_pos z]
        simp only [wt, bind_1, List.set_cons_succ, List.set_cons_zero, x_none, b_ok, boolO_n, x_bin, x_lit, x_idx, x_var, List.getElem?_cons_succ, List.getElem?_cons_zero, ixn k hk, op2_d, a1, liftO_s, sub_i, k1, ixn (k - 1) (by omega), a2, x_blt, x_cons, x_nil, x_cmp, cmp_d, gt_i, z', decide_true, int_b, if_true, m1, a3, a4, Function.comp]
      · have z' : ¬ (0 : Int) < ((k : Nat) : Int) := by omega
        have k1 : ((k : Nat) : Int) - 1 = -1 := by omega
        have m0 := mu0 (SX.S (cd " from " ++ [122])) (ls _)
        have a3 : evBin .Add (txS (cd "make " ++ [97 + k])) (.str "") = some (txS (clC k)) := by
          rw [nm_tS "", add_e (b := cd "") (by rw [List.length_append, List.length_singleton, show (cd "").length = 0 from rfl]; omega)]
          unfold clC
          rw [if_neg z]
          rfl
        simp only [wt, bind_1, List.set_cons_succ, List.set_cons_zero, x_none, b_ok, boolO_n, x_bin, x_lit, x_idx, x_var, List.getElem?_cons_succ, List.getElem?_cons_zero, ixn k hk, op2_d, a1, liftO_s, sub_i, k1, ixm, a2, x_blt, x_cons, x_nil, x_cmp, cmp_d, gt_i, z', decide_false, int_b, Bool.false_eq_true, if_false, m0, a3, a4, Function.comp]
  have je := join_e (a := []) (s := "") (ys := (List.range 25).map fun k => clC k ++ [10]) (m := 14) rfl (fun y hy => by
    obtain ⟨k, hk, rfl⟩ := List.mem_map.mp hy
    have := cl_len k hk
    rw [List.length_append, List.length_singleton]
    omega) (by rw [List.length_map, List.length_range]; simp) h
  have j0 : ∀ ys : List (List Nat), TL.joinL [] ys = ys.flatten := by
    intro ys
    induction ys with
    | nil => rfl
    | cons y ys ih =>
      cases ys with
      | nil => simp [TL.joinL]
      | cons z r =>
        show y ++ ([] ++ TL.joinL [] (z :: r)) = _
        rw [ih]
        simp
  have ef : TL.joinL [] ((List.range 25).map fun k => clC k ++ [10]) = chainC := by
    rw [j0]
    unfold chainC flt
    rw [List.map_map]
    rfl
  rw [ef] at je
  have q0 : evS b (callN tab n) law_wholes_s0 [some (.l 0), none, none, none, none] h = .ok (.nx [some (.l 0), some (.d (.str alpha)), none, none, none]) h := by
    simp only [s_asg, x_lit, b_ok, bind_1, List.set_cons_succ, List.set_cons_zero]
    rfl
  have q1 : evS b (callN tab n) law_wholes_s1 [some (.l 0), some (.d (.str alpha)), none, none, none] h = .ok (.nx [some (.l 0), some (.d (.str alpha)), some (.d (txS chainC)), none, none]) h := by
    rw [s_asg, x_mth, x_lit, b_ok, rcv_j, if_pos rfl, x_cons, lc]
    simp only [b_ok, x_nil, je, bind_1, List.set_cons_succ, List.set_cons_zero]
  have cl : chainC.length ≤ 1000 := by decide +kernel
  have c7 : (cd "make z\n").length = 7 := by decide +kernel
  have a1 : evBin .Add (txS chainC) (.str "make z\n") = some (txS (chainC ++ cd "make z\n")) := by
    rw [nm_tS "make z\n"]
    exact add_e (by omega)
  have q2 : evS b (callN tab n) law_wholes_s2 [some (.l 0), some (.d (.str alpha)), some (.d (txS chainC)), none, none] h = .ok (.nx [some (.l 0), some (.d (.str alpha)), some (.d (txS chainC)), none, some (.d (.list ((whs.take 5).map prD)))]) h := by
    simp only [s_asg, x_lst, x_tup, x_cons, x_nil, x_lit, x_var, x_bin, List.getElem?_cons_succ, List.getElem?_cons_zero, b_ok, op2_d, a1, liftO_s, allD_c, allD_0, Option.map_some, bind_1, List.set_cons_succ, List.set_cons_zero]
    rfl
  have a2 : evBin .Add (.list ((whs.take 5).map prD)) (.list ((whs.drop 5).map prD)) = some (.list (whs.map prD)) := by
    simp only [evBin]
    rw [if_pos (by simp [whs, SZ]), ← List.map_append, List.take_append_drop]
  have q3 : evS b (callN tab n) law_wholes_s3 [some (.l 0), some (.d (.str alpha)), some (.d (txS chainC)), none, some (.d (.list ((whs.take 5).map prD)))] h = .ok (.rt (.d (.list (whs.map prD)))) h := by
    have l2 := lst_pr b (callN tab n) [some (.l 0), some (.d (.str alpha)), some (.d (txS chainC)), none, some (.d (.list ((whs.take 5).map prD)))] h (whs.drop 5)
    rw [s_ret, x_bin, x_var]
    refine Eq.trans (congrArg (fun r : R W => ((R.ok (W.d (.list ((whs.take 5).map prD))) h : R W).bind fun v h' => r.bind fun w h => op2 (evBin .Add) v w h).bind fun w h => R.ok (Fl.rt w) h) l2) ?_
    simp only [b_ok, op2_d, a2, liftO_s]
  show finR false _ (evSs b (callN tab n) (.cons law_wholes_s0 (.cons law_wholes_s1 (.cons law_wholes_s2 (.cons law_wholes_s3 .nil)))) [some (.l 0), none, none, none, none] h) = _
  rw [seq_nx q0, seq_nx q1, seq_nx q2, seq_rt q3]
  rfl
theorem plain (ns : List Int) (hns : ns.length ≤ 63) : ∃ hz, callN tab 6 0 20 [.d (.list (ns.map .int))] [] = .ok (.d (.bool true)) hz := by
  obtain ⟨ds, e0⟩ := digits_ok 3 0 [] ns
  obtain ⟨bx0, hbx0⟩ : ∃ bx0, Ob.lst [.list (ds.map .int), .int 0] = bx0 := ⟨_, rfl⟩
  have hb0 : IsBox bx0 := ⟨ds, 0, hbx0.symm⟩
  obtain ⟨X0, hX0⟩ : ∃ X0 : Option W, some (.d (.list (ns.map .int))) = X0 := ⟨_, rfl⟩
  have wg := wrong_ok 4 0 [bx0]
  obtain ⟨env', h', e, bx1, t1, x2, x3, x4, x5, x6, hb1, rfl, rfl⟩ := for_list (f := fun w env h => match bindT [2, 3] true w env with
      | some env => evSs 0 (callN tab 5) law_b0 env h
      | none => .bad) (emb := W.d ∘ prD) wrgs (fun j env h => ∃ bx t x2 x3 x4 x5 x6, IsBox bx ∧ env = [X0, some (.l 0), x2, x3, x4, x5, x6] ∧ h = bx :: t)
      (env := [X0, some (.l 0), none, none, none, none, none]) (h := [bx0]) ⟨bx0, [], none, none, none, none, none, hb0, rfl, rfl⟩ fun j p env h hj iv => by
        obtain ⟨bx, t, x2, x3, x4, x5, x6, hb, rfl, rfl⟩ := iv
        obtain ⟨bx', t', y4, y5, y6, hb', e⟩ := law_turn 1 t hb (List.mem_of_getElem? hj) X0 x4 x5 x6
        have bd : bindT [2, 3] true ((W.d ∘ prD) p) [X0, some (.l 0), x2, x3, x4, x5, x6] = some (LW X0 p.1 p.2 x4 x5 x6) := bind_2
        refine ⟨_, _, ?_, bx', t', some (.d (.str p.1)), some (.d (.str p.2)), y4, y5, y6, hb', rfl, rfl⟩
        simp only [bd]
        exact e
  have wh := wholes_ok 4 0 (bx1 :: t1)
  obtain ⟨env'', h'', e2, z3, z6, rfl, rfl⟩ := for_list (f := fun w env h => match bindT [6, 3] true w env with
      | some env => evSs 0 (callN tab 5) law_b3 env h
      | none => .bad) (emb := W.d ∘ prD) whs (fun j env h => ∃ z3 z6, env = [X0, some (.l 0), x2, z3, x4, x5, z6] ∧ bx1 :: t1 = h)
      (env := [X0, some (.l 0), x2, x3, x4, x5, x6]) (h := bx1 :: t1) ⟨x3, x6, rfl, rfl⟩ fun j p env h hj iv => by
        obtain ⟨z3, z6, rfl, rfl⟩ := iv
        have hp := List.mem_of_getElem? hj
        have bd : bindT [6, 3] true ((W.d ∘ prD) p) [X0, some (.l 0), x2, z3, x4, x5, z6] = some [X0, some (.l 0), x2, some (.d (.str p.2)), x4, x5, some (.d (.str p.1))] := bind_2
        have tl := toldN_ex 1 0 (bx1 :: t1) (k := 0) (whs_parse 1 0 (bx1 :: t1) p hp)
        have ws := whs_sm p hp
        have sm := same_ok 4 0 (bx1 :: t1) (sm_told (s := p.2) (k := 0) ws.1 ws.2 (by omega))
        have td : PyData.tuple [.int 0, .str p.2] = toldN p.2 0 := rfl
        refine ⟨_, _, ?_, some (.d (.str p.2)), some (.d (.str p.1)), rfl, rfl⟩
        simp only [bd, law_b3, s_cons, s_ifs, x_nt, x_call, x_cons, x_nil, x_tup, x_var, x_lit, List.getElem?_cons_succ, List.getElem?_cons_zero, b_ok, tl, allD_c, allD_0, Option.map_some, td, sm, Bool.not_true, s_nil]
  have E0 : callN tab 5 0 9 [.d (.list (ns.map .int)), .d (.int 0), .d (.int 60)] [] = .ok (.d (.list (ds.map .int))) [] := e0
  refine ⟨[], ?_⟩
  rw [call_of (fd := f_law) _ _ rfl rfl]
  have q0 : evS 0 (callN tab 5) law_s0 [some (.d (.list (ns.map .int))), none, none, none, none, none, none] [] = .ok (.nx [some (.d (.list (ns.map .int))), some (.l 0), none, none, none, none, none]) [bx0] := by
    simp [E0, ← hbx0]
  have q1 : evS 0 (callN tab 5) law_s1 [X0, some (.l 0), none, none, none, none, none] [bx0] = .ok (.nx [X0, some (.l 0), x2, x3, x4, x5, x6]) (bx1 :: t1) := by
    have c1 : evIt 0 (callN tab 5) (.e (.call0 17)) [X0, some (.l 0), none, none, none, none, none] [bx0] = .ok (wrgs.map (W.d ∘ prD), none) [bx0] := by
      simp only [x_ite, x_call0, wg, b_ok, it_l, live_d, List.map_map]
    rw [s_for, c1]
    exact e
  have q2 : evS 0 (callN tab 5) law_s2 [X0, some (.l 0), x2, x3, x4, x5, x6] (bx1 :: t1) = .ok (.nx [X0, some (.l 0), x2, z3, x4, x5, z6]) (bx1 :: t1) := by
    have c1 : evIt 0 (callN tab 5) (.e (.call 19 (.cons (.var 1) .nil))) [X0, some (.l 0), x2, x3, x4, x5, x6] (bx1 :: t1) = .ok (whs.map (W.d ∘ prD), none) (bx1 :: t1) := by
      simp only [x_ite, x_call, x_cons, x_nil, x_var, List.getElem?_cons_succ, List.getElem?_cons_zero, b_ok, wh, it_l, live_d, List.map_map]
    rw [s_for, c1]
    exact e2
  show finR true 0 (evSs 0 (callN tab 5) (.cons law_s0 (.cons law_s1 (.cons law_s2 (.cons law_s3 .nil)))) [some (.d (.list (ns.map .int))), none, none, none, none, none, none] []) = _
  rw [seq_nx q0, hX0, seq_nx q1, seq_nx q2]
  simp only [s_cons, s_ret, x_lit, b_ok]
  rfl
end Ev

namespace Ev
open PySem PySem.Spec PyProof.Rows L2
def top (i : Nat) : Stmt := PySem.Challenge.pw_firstbreak_k13_wrong_texts.main.body.getD i (.Pass ⟨0, 0, 0, 0⟩)
def d_is_name : DF := ⟨"is_name", top 8, ["word"], n_is_name, f_is_name, none, "is_name"⟩
theorem bd_is_name : d_is_name.Bnd := fun _ _ _ _ _ _ us hl => match us, hl with | [_], _ => rfl
def d_check_ends : DF := ⟨"check_ends", top 9, ["makes"], n_check_ends, f_check_ends, none, "check_ends"⟩
theorem bd_check_ends : d_check_ends.Bnd := fun _ _ _ _ _ _ us hl => match us, hl with | [_], _ => rfl
def d_check_last : DF := ⟨"check_last", top 10, ["makes"], n_check_last, f_check_last, none, "check_last"⟩
theorem bd_check_last : d_check_last.Bnd := fun _ _ _ _ _ _ us hl => match us, hl with | [_], _ => rfl
def d_ancestors : DF := ⟨"ancestors", top 11, ["history", "m"], n_ancestors, f_ancestors, none, "ancestors"⟩
theorem bd_ancestors : d_ancestors.Bnd := fun _ _ _ _ _ _ us hl => match us, hl with | [_, _], _ => rfl
def d_words_of : DF := ⟨"words_of", top 13, ["line"], n_words_of, f_words_of, none, "words_of"⟩
theorem bd_words_of : d_words_of.Bnd := fun _ _ _ _ _ _ us hl => match us, hl with | [_], _ => rfl
def d_parents_of : DF := ⟨"parents_of", top 14, ["number", "words", "names"], n_parents_of, f_parents_of, none, "parents_of"⟩
theorem bd_parents_of : d_parents_of.Bnd := fun _ _ _ _ _ _ us hl => match us, hl with | [_, _, _], _ => rfl
def d_make_of : DF := ⟨"make_of", top 15, ["number", "words", "names"], n_make_of, f_make_of, none, "make_of"⟩
theorem bd_make_of : d_make_of.Bnd := fun _ _ _ _ _ _ us hl => match us, hl with | [_, _, _], _ => rfl
def d_parse : DF := ⟨"parse", top 16, ["text"], n_parse, f_parse, none, "parse"⟩
theorem bd_parse : d_parse.Bnd := fun _ _ _ _ _ _ us hl => match us, hl with | [_], _ => rfl
def d_law_cell : DF := ⟨"_law_cell", top 18, ["_law_script", "_law_k"], n_law_cell, f_law_cell, none, "_law_cell"⟩
theorem bd_law_cell : d_law_cell.Bnd := fun _ _ _ _ _ _ us hl => match us, hl with | [_, _], _ => rfl
def d_law_digits : DF := ⟨"_law_digits", top 19, ["_law_script", "_law_first", "_law_last"], n_law_digits, f_law_digits, none, "_law_digits"⟩
theorem bd_law_digits : d_law_digits.Bnd := fun _ _ _ _ _ _ us hl => match us, hl with | [_, _, _], _ => rfl
def d_law_draw : DF := ⟨"_law_draw", top 20, ["_law_box", "_law_many"], n_law_draw, f_law_draw, none, "_law_draw"⟩
theorem bd_law_draw : d_law_draw.Bnd := fun _ _ _ _ _ _ us hl => match us, hl with | [_, _], _ => rfl
def d_law_pick : DF := ⟨"_law_pick", top 21, ["_law_box", "_law_things"], n_law_pick, f_law_pick, none, "_law_pick"⟩
theorem bd_law_pick : d_law_pick.Bnd := fun _ _ _ _ _ _ us hl => match us, hl with | [_, _], _ => rfl
def d_law_same : DF := ⟨"_law_same", top 22, ["_law_actual", "_law_due"], n_law_same, f_law_same, none, "_law_same"⟩
theorem bd_law_same : d_law_same.Bnd := fun _ _ _ _ _ _ us hl => match us, hl with | [_, _], _ => rfl
def d_law_word : DF := ⟨"_law_word", top 23, ["_law_box", "_law_k", "_law_at"], n_law_word, f_law_word, none, "_law_word"⟩
theorem bd_law_word : d_law_word.Bnd := fun _ _ _ _ _ _ us hl => match us, hl with | [_, _, _], _ => rfl
def d_law_history : DF := ⟨"_law_history", top 24, ["_law_box", "_law_most"], n_law_history, f_law_history, none, "_law_history"⟩
theorem bd_law_history : d_law_history.Bnd := fun _ _ _ _ _ _ us hl => match us, hl with | [_, _], _ => rfl
def d_law_above : DF := ⟨"_law_above", top 25, ["_law_history_here", "_law_m"], n_law_above, f_law_above, none, "_law_above"⟩
theorem bd_law_above : d_law_above.Bnd := fun _ _ _ _ _ _ us hl => match us, hl with | [_, _], _ => rfl
def d_law_told : DF := ⟨"_law_told", top 26, ["_law_text"], n_law_told, f_law_told, none, "_law_told"⟩
theorem bd_law_told : d_law_told.Bnd := fun _ _ _ _ _ _ us hl => match us, hl with | [_], _ => rfl
def d_law_wrong : DF := ⟨"_law_wrong", top 27, [], n_law_wrong, f_law_wrong, none, "_law_wrong"⟩
theorem bd_law_wrong : d_law_wrong.Bnd := fun _ _ _ _ _ _ us hl => match us, hl with | [], _ => rfl
def d_law_head : DF := ⟨"_law_head", top 28, ["_law_box"], n_law_head, f_law_head, none, "_law_head"⟩
theorem bd_law_head : d_law_head.Bnd := fun _ _ _ _ _ _ us hl => match us, hl with | [_], _ => rfl
def d_law_wholes : DF := ⟨"_law_wholes", top 29, ["_law_box"], n_law_wholes, f_law_wholes, none, "_law_wholes"⟩
theorem bd_law_wholes : d_law_wholes.Bnd := fun _ _ _ _ _ _ us hl => match us, hl with | [_], _ => rfl
def d_law : DF := ⟨"law", top 30, ["_law_script"], n_law, f_law, none, "law"⟩
theorem bd_law : d_law.Bnd := fun _ _ _ _ _ _ us hl => match us, hl with | [_], _ => rfl
def dfs : List DF := [d_is_name, d_check_ends, d_check_last, d_ancestors, d_words_of, d_parents_of, d_make_of, d_parse, d_law_cell, d_law_digits, d_law_draw, d_law_pick, d_law_same, d_law_word, d_law_history, d_law_above, d_law_told, d_law_wrong, d_law_head, d_law_wholes, d_law]
theorem bd : ∀ d ∈ dfs, d.Bnd := List.forall_mem_cons.mpr ⟨bd_is_name, List.forall_mem_cons.mpr ⟨bd_check_ends, List.forall_mem_cons.mpr ⟨bd_check_last, List.forall_mem_cons.mpr ⟨bd_ancestors, List.forall_mem_cons.mpr ⟨bd_words_of, List.forall_mem_cons.mpr ⟨bd_parents_of, List.forall_mem_cons.mpr ⟨bd_make_of, List.forall_mem_cons.mpr ⟨bd_parse, List.forall_mem_cons.mpr ⟨bd_law_cell, List.forall_mem_cons.mpr ⟨bd_law_digits, List.forall_mem_cons.mpr ⟨bd_law_draw, List.forall_mem_cons.mpr ⟨bd_law_pick, List.forall_mem_cons.mpr ⟨bd_law_same, List.forall_mem_cons.mpr ⟨bd_law_word, List.forall_mem_cons.mpr ⟨bd_law_history, List.forall_mem_cons.mpr ⟨bd_law_above, List.forall_mem_cons.mpr ⟨bd_law_told, List.forall_mem_cons.mpr ⟨bd_law_wrong, List.forall_mem_cons.mpr ⟨bd_law_head, List.forall_mem_cons.mpr ⟨bd_law_wholes, List.forall_mem_cons.mpr ⟨bd_law, fun _ h => nomatch h⟩⟩⟩⟩⟩⟩⟩⟩⟩⟩⟩⟩⟩⟩⟩⟩⟩⟩⟩⟩⟩
def gss : List (Str × Str) := [("LETTERS", "abcdefghijklmnopqrstuvwxyz")]
def ini_BadHistory : Ini := ⟨(clsBodyE (top 2)).getD 0 (.Pass ⟨0, 0, 0, 0⟩), ["self", "line", "reason"], ["self", "line", "reason"], (.ad (.ad (.st 0) (.c ": ")) (.v 1))⟩
def ini_BadAnswer : Ini := ⟨(clsBodyE (top 3)).getD 0 (.Pass ⟨0, 0, 0, 0⟩), ["self", "place"], ["self", "place"], (.ad (.c "answer ") (.st 0))⟩
def cls0 : List CDef := [⟨"BreakError", true, [0, 1, 2], [], none⟩, ⟨"BadHistory", true, [1], ["reason", "line"], some ini_BadHistory⟩, ⟨"BadAnswer", true, [2], ["place"], some ini_BadAnswer⟩, ⟨"ValueError", false, [0, 1, 2], [], none⟩]
theorem ibd : ∀ d ∈ cls0, ∀ i, d.ini = some i → IniBnd d i := List.forall_mem_cons.mpr ⟨fun i h => (by cases h), List.forall_mem_cons.mpr ⟨fun i h => (by cases h; exact fun _ _ _ _ _ _ _ us hl => match us, hl with | [_, _, _], _ => rfl), List.forall_mem_cons.mpr ⟨fun i h => (by cases h; exact fun _ _ _ _ _ _ _ us hl => match us, hl with | [_, _], _ => rfl), List.forall_mem_cons.mpr ⟨fun i h => (by cases h), fun _ h => nomatch h⟩⟩⟩⟩
def gis : List (Str × Int) := [("MOST_MAKES", 24), ("MOST_PARENTS", 4)]
def ocl0 : List OCl := []
def gts : List (Str × List Str) := []
def ge : GE := ⟨fnN dfs, gis, gss, cls0, ocl0, gts⟩
theorem ck : dfs.all (DF.chk ge) = true := by decide +kernel
theorem co : oclB dfs ge = true := by decide +kernel
abbrev Rw : PySem.W.OpenRow := PySem.W.OpenLaw.row PySem.Challenge.rw_firstbreak_k13_wrong_texts
abbrev hk : PySem.W.Hook := hookE 4 (fas dfs ge) (fns dfs) (topB (PySem.Challenge.rw_firstbreak_k13_wrong_texts).prog ge) cls0
def ob (s : PySem.W.SharedT) : AlE := obsE 4 (fas dfs ge) (fns dfs) (topB (PySem.Challenge.rw_firstbreak_k13_wrong_texts).prog ge) cls0 (HandSHeadRun.getT s)
theorem ob_eq (s : PySem.W.SharedT) : ob s = hk.obs s.abs := obsE_eq (HandSHeadRun.getT_eq s)
def loo : List PySem.Str := [("__name__" : PySem.Str), ("BreakError" : PySem.Str), ("BadHistory" : PySem.Str), ("BadAnswer" : PySem.Str), ("MOST_MAKES" : PySem.Str), ("MOST_PARENTS" : PySem.Str), ("LETTERS" : PySem.Str), ("is_name" : PySem.Str), ("check_ends" : PySem.Str), ("check_last" : PySem.Str), ("ancestors" : PySem.Str), ("words_of" : PySem.Str), ("parents_of" : PySem.Str), ("make_of" : PySem.Str), ("parse" : PySem.Str), ("_law_cell" : PySem.Str), ("_law_digits" : PySem.Str), ("_law_draw" : PySem.Str), ("_law_pick" : PySem.Str), ("_law_same" : PySem.Str), ("_law_word" : PySem.Str), ("_law_history" : PySem.Str), ("_law_above" : PySem.Str), ("_law_told" : PySem.Str), ("_law_wrong" : PySem.Str), ("_law_head" : PySem.Str), ("_law_wholes" : PySem.Str)]
section
open PySem.W PySem.Calls PyProof.Rows HandSHeadRun
theorem run_split {α β γ δ : Type} {o : Option α} {f : α → β} {g : α → γ} {h : α → δ} {b : β} {c : γ} {d : δ} (h1 : o.map f = some b) (h2 : o.map g = some c) (h3 : o.map h = some d) : o.map (fun s => (f s, g s, h s)) = some (b, c, d) := by
  cases o with
  | none => cases h1
  | some x =>
    simp only [Option.map_some, Option.some.injEq] at h1 h2 h3 ⊢
    rw [h1, h2, h3]
theorem run1 (w : World) (os : OsState) : (HandSHeadRun.endF (HandSHeadRun.stepQ (HandSHeadRun.denQ HandSHeadRun.tabQ) Rw.prog w) 9000 Rw.prog w os).map (fun s => looksF Rw.prog (boot_heap w.params) s.abs) = some true := by kernel_rfl
theorem run2 (w : World) (os : OsState) : (HandSHeadRun.endF (HandSHeadRun.stepQ (HandSHeadRun.denQ HandSHeadRun.tabQ) Rw.prog w) 9000 Rw.prog w os).map (fun s => seenQ (PySem.W.view Rw.prog [30]) [("__name__" : PySem.Str), ("BreakError" : PySem.Str), ("BadHistory" : PySem.Str), ("BadAnswer" : PySem.Str), ("MOST_MAKES" : PySem.Str), ("MOST_PARENTS" : PySem.Str), ("LETTERS" : PySem.Str), ("is_name" : PySem.Str), ("check_ends" : PySem.Str), ("check_last" : PySem.Str), ("ancestors" : PySem.Str), ("words_of" : PySem.Str), ("parents_of" : PySem.Str), ("make_of" : PySem.Str), ("parse" : PySem.Str), ("_law_cell" : PySem.Str), ("_law_digits" : PySem.Str), ("_law_draw" : PySem.Str), ("_law_pick" : PySem.Str), ("_law_same" : PySem.Str), ("_law_word" : PySem.Str), ("_law_history" : PySem.Str), ("_law_above" : PySem.Str), ("_law_told" : PySem.Str), ("_law_wrong" : PySem.Str), ("_law_head" : PySem.Str), ("_law_wholes" : PySem.Str)] (importedModules Rw.prog.main.body) (fun s => xlAt (PySem.W.view Rw.prog [30]) [] s && recOk Rw.toRowW.records s) s.abs) = some (openGood (PySem.W.view Rw.prog [30]) [("__name__" : PySem.Str), ("BreakError" : PySem.Str), ("BadHistory" : PySem.Str), ("BadAnswer" : PySem.Str), ("MOST_MAKES" : PySem.Str), ("MOST_PARENTS" : PySem.Str), ("LETTERS" : PySem.Str), ("is_name" : PySem.Str), ("check_ends" : PySem.Str), ("check_last" : PySem.Str), ("ancestors" : PySem.Str), ("words_of" : PySem.Str), ("parents_of" : PySem.Str), ("make_of" : PySem.Str), ("parse" : PySem.Str), ("_law_cell" : PySem.Str), ("_law_digits" : PySem.Str), ("_law_draw" : PySem.Str), ("_law_pick" : PySem.Str), ("_law_same" : PySem.Str), ("_law_word" : PySem.Str), ("_law_history" : PySem.Str), ("_law_above" : PySem.Str), ("_law_told" : PySem.Str), ("_law_wrong" : PySem.Str), ("_law_head" : PySem.Str), ("_law_wholes" : PySem.Str)]) := by kernel_rfl
theorem run3a (w : World) (os : OsState) : (HandSHeadRun.endF (HandSHeadRun.stepQ (HandSHeadRun.denQ HandSHeadRun.tabQ) Rw.prog w) 9000 Rw.prog w os).map (fun s => (ob s).1) = some (hk.val w).1 := by kernel_rfl
theorem run3b (w : World) (os : OsState) : (HandSHeadRun.endF (HandSHeadRun.stepQ (HandSHeadRun.denQ HandSHeadRun.tabQ) Rw.prog w) 9000 Rw.prog w os).map (fun s => (ob s).2.1) = some (hk.val w).2.1 := by kernel_rfl
theorem run3c (w : World) (os : OsState) : (HandSHeadRun.endF (HandSHeadRun.stepQ (HandSHeadRun.denQ HandSHeadRun.tabQ) Rw.prog w) 9000 Rw.prog w os).map (fun s => (ob s).2.2) = some (hk.val w).2.2 := by kernel_rfl
theorem run3 (w : World) (os : OsState) : (HandSHeadRun.endF (HandSHeadRun.stepQ (HandSHeadRun.denQ HandSHeadRun.tabQ) Rw.prog w) 9000 Rw.prog w os).map ob = some (hk.val w) := run_split (f := fun s => (ob s).1) (g := fun s => (ob s).2.1) (h := fun s => (ob s).2.2) (run3a w os) (run3b w os) (run3c w os)
theorem run (w : World) : HandSHeadRun.RunEq Rw (PySem.W.view Rw.prog [30]) hk ob 9000 [("__name__" : PySem.Str), ("BreakError" : PySem.Str), ("BadHistory" : PySem.Str), ("BadAnswer" : PySem.Str), ("MOST_MAKES" : PySem.Str), ("MOST_PARENTS" : PySem.Str), ("LETTERS" : PySem.Str), ("is_name" : PySem.Str), ("check_ends" : PySem.Str), ("check_last" : PySem.Str), ("ancestors" : PySem.Str), ("words_of" : PySem.Str), ("parents_of" : PySem.Str), ("make_of" : PySem.Str), ("parse" : PySem.Str), ("_law_cell" : PySem.Str), ("_law_digits" : PySem.Str), ("_law_draw" : PySem.Str), ("_law_pick" : PySem.Str), ("_law_same" : PySem.Str), ("_law_word" : PySem.Str), ("_law_history" : PySem.Str), ("_law_above" : PySem.Str), ("_law_told" : PySem.Str), ("_law_wrong" : PySem.Str), ("_law_head" : PySem.Str), ("_law_wholes" : PySem.Str)] w := fun os => run_split (run1 w os) (run2 w os) (run3 w os)
end
end Ev
open PySem PySem.W PySem.Calls PyProof.Rows
theorem PySem.Challenge.cw_firstbreak_k13_wrong_texts_holds : PySem.Challenge.rw_firstbreak_k13_wrong_texts.Holds := by
  w_on; o_law
  refine HandSHeadRun.head_any (r := OpenLaw.row PySem.Challenge.rw_firstbreak_k13_wrong_texts) (q := view (OpenLaw.row PySem.Challenge.rw_firstbreak_k13_wrong_texts).prog [30]) (H := Ev.hk) (ob := Ev.ob) (M := 9000) (loose := [("__name__" : PySem.Str), ("BreakError" : PySem.Str), ("BadHistory" : PySem.Str), ("BadAnswer" : PySem.Str), ("MOST_MAKES" : PySem.Str), ("MOST_PARENTS" : PySem.Str), ("LETTERS" : PySem.Str), ("is_name" : PySem.Str), ("check_ends" : PySem.Str), ("check_last" : PySem.Str), ("ancestors" : PySem.Str), ("words_of" : PySem.Str), ("parents_of" : PySem.Str), ("make_of" : PySem.Str), ("parse" : PySem.Str), ("_law_cell" : PySem.Str), ("_law_digits" : PySem.Str), ("_law_draw" : PySem.Str), ("_law_pick" : PySem.Str), ("_law_same" : PySem.Str), ("_law_word" : PySem.Str), ("_law_history" : PySem.Str), ("_law_above" : PySem.Str), ("_law_told" : PySem.Str), ("_law_wrong" : PySem.Str), ("_law_head" : PySem.Str), ("_law_wholes" : PySem.Str)]) (d := HandSHeadRun.topDef (OpenLaw.row PySem.Challenge.rw_firstbreak_k13_wrong_texts).prog 30) (kwd := []) Ev.ob_eq
    (by kernel_rfl) (fun s => by kernel_rfl) Ev.run (by kernel_rfl) (by kernel_rfl) (by kernel_rfl) (by rfl) (by first | assumption | decide +kernel) (by decide +kernel) ⟨rfl, rfl, rfl, rfl, rfl, by decide +kernel⟩ ?hw ?hc
  case hw => w_witness2
  case hc =>
    refine Ev.walkG (l := PySem.Challenge.rw_firstbreak_k13_wrong_texts) (n := 63) (k := 14) (x := "_law_script") (CX := Ev.CXW (PySem.Challenge.rw_firstbreak_k13_wrong_texts).prog) rfl (by decide) (by kernel_rfl) ⟨rfl, by decide, by decide⟩ ?F (fun _ _ _ _ z => Ev.CXW.none z)
    intro w mg fa h Y G hmg0
    obtain ⟨K, KX, c, cb, cx⟩ := Y
    have hmg : mg ("law" : PySem.Str) = some (.ref fa) := by
      have e : (HandSHeadRun.topDef (OpenLaw.row PySem.Challenge.rw_firstbreak_k13_wrong_texts).prog 30).name = ("law" : PySem.Str) := by kernel_rfl
      rw [← e]
      exact hmg0
    exact Ev.law_facts (n := 5) (i := 20) (d := Ev.d_law) KX G c rfl Ev.ck Ev.co cb cx Ev.ibd Ev.bd rfl rfl rfl hmg Ev.plain
