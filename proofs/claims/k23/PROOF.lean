import PyProof.Rows.All
import Wide.All
import OpenK.AllK
import Wide.FinOn
import HandS.ForMost
import HandS.ForExc
import HandS.Deep
import KE.DataFind
import KE.DataMinMax
import KE.SortData
import KE.KeyNested
import HandS.TupAny
import HandS.Flow
import HandS.ExcOwn
import HandS.SetFor
import HandS.Strs
import HandS.SortInts
import HandS.Conv
import KE.DataIsa
import HandS.Dict
import HandS.Defaults
import KE.KStateDown
import HandS.Ends
import HandS.More
import HandS.Words
import HandS.WordsExc
import HandS.Head0
import HandS.Head1
import HandS.Head2
import HandS.HeadEnd
import HandS.HeadHook1
import HandS.HeadHook2
import KE.DataEq
import KE.DataCmp
import Lean
import PySem.Challenge.RW_firstbreak_k23_places_in_trees
set_option Elab.async false
set_option linter.all false
set_option maxRecDepth 100000
set_option maxHeartbeats 0
/-! EvA: a small language of terms (E, S), what it computes (evE, evS, callN) over plain data. -/
namespace Ev
open PySem

/-- a value: data, or the place of an object -/
inductive W where
  | d (x : PyData)
  | l (n : Nat)

/-- an object that may change -/
inductive Ob where
  | lst (xs : List PyData)
  | lsw (ws : List W)
  | dct (kvs : List (PyData × PyData))
  | dead

abbrev Hq := List Ob
inductive R (α : Type) where
  | ok (a : α) (h : Hq)
  | ex (c : Nat) (ds : List PyData) (h : Hq)
  | bad

def R.bind {α β : Type} (r : R α) (f : α → Hq → R β) : R β := match r with
  | .ok a h => f a h
  | .ex c ds h => .ex c ds h
  | .bad => .bad

theorem bind_ok {α β : Type} (a : α) (h : Hq) (f : α → Hq → R β) : (R.ok a h).bind f = f a h := rfl
theorem bind_ex {α β : Type} (c : Nat) (ds : List PyData) (h : Hq) (f : α → Hq → R β) : (R.ex c ds h : R α).bind f = .ex c ds h := rfl
theorem bind_bad {α β : Type} (f : α → Hq → R β) : (R.bad : R α).bind f = .bad := rfl

/-- built-in functions -/
inductive Bt where
  | len | tuple | int | sum | max | min | all | any | sorted | list | repr | str | max2 | min2
  deriving DecidableEq
/-- methods of built-in types -/
inductive Mt where
  | count | index | get | pop
  deriving DecidableEq

/-- the classes that isinstance is asked of -/
inductive Ity where
  | int | bool | str | tuple
  deriving DecidableEq
def isaD : Ity → PyData → Bool
  | .int, .int _ => true
  | .int, .bool _ => true
  | .bool, .bool _ => true
  | .str, .str _ => true
  | .tuple, .tuple _ => true
  | _, _ => false

mutual
inductive E where
  | bad
  | glb (x : Int)
  | trg (t : Bool) (a : E)
  | isa (c : Ity) (a : E)
  | dlg (kvs : List (Str × Int)) (k d : E)
  | var (i : Nat)
  | lit (c : PyData)
  | tup (es : Es)
  | lst (es : Es)
  | lstM (es : Es)
  | lsw (es : Es)
  | bin (o : Operator) (a b : E)
  | neg (a : E)
  | nt (a : E)
  | cmp (o : CmpOp) (a b : E)
  | isN (a : E)
  | notN (a : E)
  | cmp2 (o p : CmpOp) (a b c : E)
  | one (a : E)
  | and (a b : E)
  | or (a b : E)
  | ife (c a b : E)
  | idx (a i : E)
  | slc (a : E) (lo hi : Oe)
  | blt (f : Bt) (es : Es)
  | mth (f : Mt) (o : E) (es : Es)
  | call (f : Nat) (es : Es)
  | sset (a : E)
  | lc (k : Nat) (t : List Nat) (u : Bool) (it : It) (c : Oe) (e : E)
inductive Es where
  | nil
  | cons (e : E) (es : Es)
inductive Oe where
  | none
  | some (e : E)
inductive It where
  | e (a : E)
  | rg1 (a : E)
  | rg2 (a b : E)
  | rgd (a b : E)
end

abbrev Vars := List (Option W)

def SZ : Nat := 16777216

def allD : List W → Option (List PyData)
  | [] => some []
  | .d x :: ws => (allD ws).map (x :: ·)
  | .l _ :: _ => none

/-- what a value is, read now -/
def toD (h : Hq) : W → Option PyData
  | .d x => some x
  | .l n => match h[n]? with
    | some (.lst xs) => some (.list xs)
    | _ => none

def liftO (o : Option PyData) (h : Hq) : R W := match o with
  | some x => .ok (.d x) h
  | none => .bad
def op2 (f : PyData → PyData → Option PyData) (a b : W) (h : Hq) : R W := match toD h a, toD h b with
  | some x, some y => liftO (f x y) h
  | _, _ => .bad

def sOk (i j : Int) : Bool := decide ((-(2 ^ 64) < i ∧ i < 2 ^ 64) ∨ (-(2 ^ 64) < j ∧ j < 2 ^ 64))
def divOk (j : Int) : Bool := decide (j ≠ 0 ∧ j.natAbs < 1073741824)
def powOk (i j : Int) : Bool := decide (0 ≤ j ∧ j ≤ 1000000 ∧ i.natAbs < 2 ^ 64)
def repOk (n : Nat) (k : Int) : Bool := decide (-(2 ^ 62) ≤ k ∧ k < 2 ^ 62 ∧ n * k.toNat ≤ SZ)
def repL {α : Type} (xs : List α) (k : Int) : List α := (List.replicate k.toNat xs).flatten

def evBin : Operator → PyData → PyData → Option PyData
  | .Add, .int i, .int j => some (.int (i + j))
  | .Add, .str x, .str y => if x.length + y.length ≤ SZ then some (.str (x ++ y)) else none
  | .Add, .list x, .list y => if x.length + y.length ≤ SZ then some (.list (x ++ y)) else none
  | .Add, .tuple x, .tuple y => if x.length + y.length ≤ SZ then some (.tuple (x ++ y)) else none
  | .Sub, .int i, .int j => some (.int (i - j))
  | .Mult, .int i, .int j => if sOk i j then some (.int (i * j)) else none
  | .FloorDiv, .int i, .int j => if divOk j then some (.int (i.fdiv j)) else none
  | .Mod, .int i, .int j => if j ≠ 0 then some (.int (i.fmod j)) else none
  | .Pow, .int i, .int j => if powOk i j then some (.int (i ^ j.toNat)) else none
  | .LShift, .int i, .int j => if powOk i j then some (.int (i * 2 ^ j.toNat)) else none
  | _, _, _ => none

def dpt (d : PyData) : Bool := decide (d.depth ≤ 150)

def evCmp : CmpOp → PyData → PyData → Option PyData
  | .Lt, .int i, .int j => some (.bool (decide (i < j)))
  | .LtE, .int i, .int j => some (.bool (decide (i ≤ j)))
  | .Gt, .int i, .int j => some (.bool (decide (j < i)))
  | .GtE, .int i, .int j => some (.bool (decide (j ≤ i)))
  | .Eq, x, y => if dpt x || dpt y then some (.bool (PyData.eqv x y)) else none
  | .NotEq, x, y => if dpt x || dpt y then some (.bool (!PyData.eqv x y)) else none
  | .In, x, .list ys => if dpt x then some (.bool (ys.any fun y => PyData.eqv y x)) else none
  | .In, x, .tuple ys => if dpt x then some (.bool (ys.any fun y => PyData.eqv y x)) else none
  | .NotIn, x, .list ys => if dpt x then some (.bool (!ys.any fun y => PyData.eqv y x)) else none
  | .NotIn, x, .tuple ys => if dpt x then some (.bool (!ys.any fun y => PyData.eqv y x)) else none
  | _, _, _ => none

/-- the place that an index of any sign means -/
def atZ {α : Type} (xs : List α) (i : Int) : Option α := L2.atI xs i
def cutL {α : Type} (xs : List α) (lo hi : Option Int) : List α := (xs.drop (HT.sIx xs.length 0 lo)).take (HT.sIx xs.length xs.length hi - HT.sIx xs.length 0 lo)

def evIdx (h : Hq) (a i : W) : R W := match a, i with
  | .d (.list xs), .d (.int k) => liftO (atZ xs k) h
  | .d (.tuple xs), .d (.int k) => liftO (atZ xs k) h
  | .d (.str s), .d (.int k) => if s.length ≤ SZ then match atZ s.cps.toList k with
    | some c => .ok (.d (.str ⟨#[c]⟩)) h
    | none => .bad
    else .bad
  | .l n, .d (.int k) => match h[n]? with
    | some (.lst xs) => liftO (atZ xs k) h
    | some (.lsw ws) => match atZ ws k with
      | some w => .ok w h
      | none => .bad
    | _ => .bad
  | _, _ => .bad

def intO (w : Option W) : Option (Option Int) := match w with
  | none => some none
  | some (.d (.int i)) => some (some i)
  | _ => none
def evSlc (h : Hq) (a : W) (l u : Option Int) : R W := match toD h a with
  | some (.list xs) => .ok (.d (.list (cutL xs l u))) h
  | some (.tuple xs) => .ok (.d (.tuple (cutL xs l u))) h
  | _ => .bad

def intsOf : List PyData → Option (List Int)
  | [] => some []
  | .int i :: xs => (intsOf xs).map (i :: ·)
  | _ => none
def boolsOf : List PyData → Option (List Bool)
  | [] => some []
  | .bool i :: xs => (boolsOf xs).map (i :: ·)
  | _ => none
def sortI (ns : List Int) : List Int := ns.mergeSort (fun a b => decide (a ≤ b))

def insU (x : Int) : List Int → List Int
  | [] => [x]
  | y :: ys => if x < y then x :: y :: ys else if x = y then y :: ys else y :: insU x ys
/-- the members, ascending, each once -/
def sortU (ns : List Int) : List Int := ns.foldr insU []
def listInts : PyData → Option (List Int)
  | .list xs => intsOf xs
  | _ => none
def evLen (h : Hq) : W → Option Nat
  | .d (.list xs) => some xs.length
  | .d (.tuple xs) => some xs.length
  | .d (.str s) => if s.length ≤ SZ then some s.length else none
  | .l n => match h[n]? with
    | some (.lst xs) => some xs.length
    | some (.lsw xs) => some xs.length
    | some (.dct xs) => some xs.length
    | _ => none
  | _ => none

/-- a list or a tuple, its items -/
def seqOf : PyData → Option (List PyData)
  | .list xs => some xs
  | .tuple xs => some xs
  | _ => none

def maxI : List Int → Option Int
  | [] => none
  | x :: xs => match maxI xs with
    | none => some x
    | some m => some (if m < x then x else m)
def minI : List Int → Option Int
  | [] => none
  | x :: xs => match minI xs with
    | none => some x
    | some m => some (if x < m then x else m)
def listBools : PyData → Option (List Bool)
  | .list xs => boolsOf xs
  | _ => none
def evB (f : Bt) (ws : List W) (h : Hq) : R W := match f, ws with
  | .len, [w] => match evLen h w with
    | some n => .ok (.d (.int n)) h
    | none => .bad
  | .tuple, [w] => liftO (((toD h w).bind seqOf).map .tuple) h
  | .list, [w] => liftO (((toD h w).bind seqOf).map .list) h
  | .int, [.d (.int i)] => .ok (.d (.int i)) h
  | .int, [.d (.bool b)] => .ok (.d (.int (if b then 1 else 0))) h
  | .sum, [w] => liftO (((toD h w).bind listInts).map fun ns => .int ns.sum) h
  | .sorted, [w] => liftO (((toD h w).bind listInts).map fun ns => .list ((sortI ns).map .int)) h
  | .max, [w] => liftO ((((toD h w).bind listInts).bind maxI).map .int) h
  | .min, [w] => liftO ((((toD h w).bind listInts).bind minI).map .int) h
  | .max, [.d (.int i), .d (.int j)] => .ok (.d (.int (if j > i then j else i))) h
  | .min, [.d (.int i), .d (.int j)] => .ok (.d (.int (if j < i then j else i))) h
  | .all, [w] => liftO (((toD h w).bind listBools).map fun bs => .bool (bs.all id)) h
  | .any, [w] => liftO (((toD h w).bind listBools).map fun bs => .bool (bs.any id)) h
  | _, _ => .bad

/-- what stands ahead of the method's name is right, ahead of the arguments -/
def recv (f : Mt) (h : Hq) (w : W) : Bool := match f, toD h w with
  | .count, some (.list _) => true
  | _, _ => false
def evM (f : Mt) (w : W) (ws : List W) (h : Hq) : R W := match f, ws with
  | .count, [.d x] => match toD h w with
    | some (.list ys) => if dpt x then .ok (.d (.int (ys.countP fun y => PyData.eqv y x : Nat))) h else .bad
    | _ => .bad
  | _, _ => .bad

def setAll : List Nat → List W → Vars → Vars
  | i :: is, w :: ws, env => setAll is ws (env.set i (some w))
  | _, _, env => env
/-- the targets of a loop's turn: one slot, or the slots that a tuple's items go to -/
def bindT (t : List Nat) (u : Bool) (w : W) (env : Vars) : Option Vars := match u with
  | false => match t with
    | [i] => some (env.set i (some w))
    | _ => none
  | true => match w with
    | .d (.tuple xs) => if xs.length = t.length then some (setAll t (xs.map .d) env) else none
    | _ => none

def rangeUp (lo hi : Int) : List W := (List.range (hi - lo).toNat).map fun (i : Nat) => W.d (.int (lo + i))
def rangeDn (hi lo : Int) : List W := (List.range (hi - lo).toNat).map fun (i : Nat) => W.d (.int (hi - i))
def rgOk (lo hi : Int) : Bool := decide (-(2 ^ 61) ≤ lo ∧ lo < 2 ^ 61 ∧ -(2 ^ 61) ≤ hi ∧ hi < 2 ^ 61 ∧ hi - lo ≤ 16777216)
/-- the items that are walked -/
def itemsOf (h : Hq) : W → Option (List W)
  | .d (.list xs) => some (xs.map .d)
  | .d (.tuple xs) => some (xs.map .d)
  | _ => none

def lcGo (f : W → Hq → R (Option W)) : List W → Hq → R (List W)
  | [], h => .ok [] h
  | w :: ws, h => (f w h).bind fun o h => (lcGo f ws h).bind fun rs h => match o with
    | some r => .ok (r :: rs) h
    | none => .ok rs h
def noEx {α : Type} : R α → R α
  | .ex _ _ _ => .bad
  | r => r
def lcEnd (k : Nat) (ws : List W) (h : Hq) : R W := match k with
  | 0 => match allD ws with
    | some ds => .ok (.d (.list ds)) h
    | none => .bad
  | 1 => match allD ws with
    | some ds => .ok (.l h.length) (h ++ [.lst ds])
    | none => .bad
  | _ => .ok (.l h.length) (h ++ [.lsw ws])

def boolO : Option W → Option Bool
  | none => some true
  | some (.d (.bool k)) => some k
  | _ => none
abbrev CallF := Nat → Nat → List W → Hq → R W

/-- a written dict's answer -/
def dlook (kvs : List (Str × Int)) (s : Str) : Option Int := kvs.foldl (fun acc p => if s = p.1 then some p.2 else acc) none
mutual
def evE (b : Nat) (C : CallF) : E → Vars → Hq → R W
  | .bad, _, _ => .bad
  | .glb x, _, h => .ok (.d (.int x)) h
  | .trg t a, env, h => (evE b C a env h).bind fun w h => match w with
    | .d (.int n) => if rgOk 0 n then .ok (.d ((if t then PyData.tuple else PyData.list) ((List.range n.toNat).map fun i => .int (i : Nat)))) h else .bad
    | _ => .bad
  | .isa c a, env, h => (evE b C a env h).bind fun w h => match toD h w with
    | some x => .ok (.d (.bool (isaD c x))) h
    | none => .bad
  | .dlg kvs k d, env, h => (evE b C k env h).bind fun v h => (evE b C d env h).bind fun w h => match v with
    | .d (.str s) => .ok (match dlook kvs s with
      | some i => .d (.int i)
      | none => w) h
    | _ => .bad
  | .var i, env, h => match env[i]? with
    | some (some w) => .ok w h
    | _ => .bad
  | .lit c, _, h => .ok (.d c) h
  | .tup es, env, h => (evEs b C es env h).bind fun ws h => match allD ws with
    | some ds => .ok (.d (.tuple ds)) h
    | none => .bad
  | .lst es, env, h => (evEs b C es env h).bind fun ws h => match allD ws with
    | some ds => .ok (.d (.list ds)) h
    | none => .bad
  | .lstM es, env, h => (evEs b C es env h).bind fun ws h => match allD ws with
    | some ds => .ok (.l h.length) (h ++ [.lst ds])
    | none => .bad
  | .lsw es, env, h => (evEs b C es env h).bind fun ws h => .ok (.l h.length) (h ++ [.lsw ws])
  | .bin o x y, env, h => (evE b C x env h).bind fun v h => (evE b C y env h).bind fun w h => op2 (evBin o) v w h
  | .neg x, env, h => (evE b C x env h).bind fun v h => match v with
    | .d (.int i) => .ok (.d (.int (-i))) h
    | _ => .bad
  | .nt x, env, h => (evE b C x env h).bind fun v h => match v with
    | .d (.bool k) => .ok (.d (.bool (!k))) h
    | _ => .bad
  | .cmp o x y, env, h => (evE b C x env h).bind fun v h => (evE b C y env h).bind fun w h => op2 (evCmp o) v w h
  | .isN x, env, h => (evE b C x env h).bind fun v h => match v with
    | .d .none => .ok (.d (.bool true)) h
    | _ => .ok (.d (.bool false)) h
  | .notN x, env, h => (evE b C x env h).bind fun v h => match v with
    | .d .none => .ok (.d (.bool false)) h
    | _ => .ok (.d (.bool true)) h
  | .cmp2 o p x y z, env, h => (evE b C x env h).bind fun v h => (evE b C y env h).bind fun w h => (op2 (evCmp o) v w h).bind fun k h => match k with
    | .d (.bool true) => (evE b C z env h).bind fun u h => op2 (evCmp p) w u h
    | .d (.bool false) => .ok (.d (.bool false)) h
    | _ => .bad
  | .one x, env, h => evE b C x env h
  | .and x y, env, h => (evE b C x env h).bind fun v h => match v with
    | .d (.bool true) => evE b C y env h
    | .d (.bool false) => .ok (.d (.bool false)) h
    | _ => .bad
  | .or x y, env, h => (evE b C x env h).bind fun v h => match v with
    | .d (.bool true) => .ok (.d (.bool true)) h
    | .d (.bool false) => evE b C y env h
    | _ => .bad
  | .ife c x y, env, h => (evE b C c env h).bind fun v h => match v with
    | .d (.bool true) => evE b C x env h
    | .d (.bool false) => evE b C y env h
    | _ => .bad
  | .idx x i, env, h => (evE b C x env h).bind fun v h => (evE b C i env h).bind fun w h => evIdx h v w
  | .slc x lo hi, env, h => (evE b C x env h).bind fun v h => (evOe b C lo env h).bind fun l h => match intO l with
    | some l => (evOe b C hi env h).bind fun u h => match intO u with
      | some u => evSlc h v l u
      | none => .bad
    | none => .bad
  | .blt f es, env, h => (evEs b C es env h).bind fun ws h => evB f ws h
  | .mth f o es, env, h => (evE b C o env h).bind fun w h => if recv f h w then (evEs b C es env h).bind fun ws h => evM f w ws h else .bad
  | .sset x, env, h => (evE b C x env h).bind fun v h => match (toD h v).bind listInts with
    | some ns => if ns.length < 60 then .ok (.d (.list ((sortU ns).map .int))) h else .bad
    | none => .bad
  | .call f es, env, h => (evEs b C es env h).bind fun ws h => C b f ws h
  | .lc k t u it c e, env, h => (evIt b C it env h).bind fun ws h => (noEx (lcGo (fun w h => match bindT t u w env with
      | some env => (evOe b C c env h).bind fun q h => match boolO q with
        | some true => (evE b C e env h).bind fun r h => .ok (some r) h
        | some false => .ok none h
        | none => .bad
      | none => .bad) ws h)).bind fun rs h => lcEnd k rs h
def evEs (b : Nat) (C : CallF) : Es → Vars → Hq → R (List W)
  | .nil, _, h => .ok [] h
  | .cons e es, env, h => (evE b C e env h).bind fun w h => (evEs b C es env h).bind fun ws h => .ok (w :: ws) h
def evOe (b : Nat) (C : CallF) : Oe → Vars → Hq → R (Option W)
  | .none, _, h => .ok none h
  | .some e, env, h => (evE b C e env h).bind fun w h => .ok (some w) h
def evIt (b : Nat) (C : CallF) : It → Vars → Hq → R (List W)
  | .e a, env, h => (evE b C a env h).bind fun w h => match itemsOf h w with
    | some ws => .ok ws h
    | none => .bad
  | .rg1 a, env, h => (evE b C a env h).bind fun w h => match w with
    | .d (.int n) => if rgOk 0 n then .ok (rangeUp 0 n) h else .bad
    | _ => .bad
  | .rg2 a c, env, h => (evE b C a env h).bind fun w h => (evE b C c env h).bind fun v h => match w, v with
    | .d (.int n), .d (.int k) => if rgOk n k then .ok (rangeUp n k) h else .bad
    | _, _ => .bad
  | .rgd a c, env, h => (evE b C a env h).bind fun w h => (evE b C c env h).bind fun v h => match w, v with
    | .d (.int n), .d (.int k) => if rgOk k n then .ok (rangeDn n k) h else .bad
    | _, _ => .bad
end

/-! ### statements -/
inductive Fl where
  | nx (env : Vars)
  | rt (w : W)
  | bk (env : Vars)
  | ct (env : Vars)

mutual
inductive S where
  | bad
  | asg (t : List Nat) (u : Bool) (e : E)
  | set (o i e : E)
  | app (o e : E)
  | expr (e : E)
  | ret (e : E)
  | retN
  | ifs (c : E) (a b : Ss)
  | forS (t : List Nat) (u : Bool) (it : It) (b : Ss)
  | whl (n : Nat) (c : E) (b : Ss)
  | pass | brk | cnt
  | rais (c : Nat) (es : Es)
  | frz (i : Nat)
inductive Ss where
  | nil
  | cons (s : S) (ss : Ss)
end

def forGo (f : W → Vars → Hq → R Fl) : List W → Vars → Hq → R Fl
  | [], env, h => .ok (.nx env) h
  | w :: ws, env, h => (f w env h).bind fun q h => match q with
    | .nx env => forGo f ws env h
    | .ct env => forGo f ws env h
    | .bk env => .ok (.nx env) h
    | .rt v => .ok (.rt v) h
def whlGo (c : Vars → Hq → R W) (f : Vars → Hq → R Fl) : Nat → Vars → Hq → R Fl
  | 0, _, _ => .bad
  | n + 1, env, h => (c env h).bind fun v h => match v with
    | .d (.bool false) => .ok (.nx env) h
    | .d (.bool true) => (f env h).bind fun q h => match q with
      | .nx env => whlGo c f n env h
      | .ct env => whlGo c f n env h
      | .bk env => .ok (.nx env) h
      | .rt v => .ok (.rt v) h
    | _ => .bad

/-- o[i] = v -/
def evSet (b : Nat) (o i v : W) (h : Hq) : R Unit := match o, i with
  | .l n, .d (.int k) => match h[n]? with
    | some (.lst xs) => match L2.ixN xs.length k, v with
      | some j, .d x => .ok () (h.set n (.lst (xs.set j x)))
      | _, _ => .bad
    | some (.lsw ws) => match L2.ixN ws.length k with
      | some j => match v with
        | .d x => .ok () (h.set n (.lsw (ws.set j v)))
        | .l _ => if b ≤ n then .ok () (h.set n (.lsw (ws.set j v))) else .bad
      | none => .bad
    | _ => .bad
  | _, _ => .bad
/-- a list that may change -/
def recvL (h : Hq) (w : W) : Bool := match w with
  | .l n => match h[n]? with
    | some (.lst _) => true
    | some (.lsw _) => true
    | _ => false
  | _ => false
/-- o.append(v) -/
def evApp (b : Nat) (o v : W) (h : Hq) : R Unit := match o with
  | .l n => match h[n]? with
    | some (.lst xs) => match v with
      | .d x => if xs.length < SZ then .ok () (h.set n (.lst (xs ++ [x]))) else .bad
      | .l _ => .bad
    | some (.lsw ws) => match v with
      | .d x => if ws.length < SZ then .ok () (h.set n (.lsw (ws ++ [v]))) else .bad
      | .l _ => if ws.length < SZ ∧ b ≤ n then .ok () (h.set n (.lsw (ws ++ [v]))) else .bad
    | _ => .bad
  | _ => .bad
/-- the list at a slot is never changed from here on -/
def evFrz (i : Nat) (env : Vars) (h : Hq) : R Fl := match env[i]? with
  | some (some (.l n)) => match h[n]? with
    | some (.lst xs) => .ok (.nx (env.set i (some (.d (.list xs))))) (h.set n .dead)
    | _ => .bad
  | _ => .bad

mutual
def evS (b : Nat) (C : CallF) : S → Vars → Hq → R Fl
  | .bad, _, _ => .bad
  | .asg t u e, env, h => (evE b C e env h).bind fun w h => match bindT t u w env with
    | some env => .ok (.nx env) h
    | none => .bad
  | .set o i e, env, h => (evE b C e env h).bind fun v h => (evE b C o env h).bind fun w h => (evE b C i env h).bind fun k h => (evSet b w k v h).bind fun _ h => .ok (.nx env) h
  | .app o e, env, h => (evE b C o env h).bind fun w h => if recvL h w then (evE b C e env h).bind fun v h => (evApp b w v h).bind fun _ h => .ok (.nx env) h else .bad
  | .expr e, env, h => (evE b C e env h).bind fun _ h => .ok (.nx env) h
  | .ret e, env, h => (evE b C e env h).bind fun w h => .ok (.rt w) h
  | .retN, _, h => .ok (.rt (.d .none)) h
  | .ifs c x y, env, h => (evE b C c env h).bind fun v h => match v with
    | .d (.bool true) => evSs b C x env h
    | .d (.bool false) => evSs b C y env h
    | _ => .bad
  | .forS t u it s, env, h => (evIt b C it env h).bind fun ws h => forGo (fun w env h => match bindT t u w env with
    | some env => evSs b C s env h
    | none => .bad) ws env h
  | .whl n c s, env, h => whlGo (fun env h => evE b C c env h) (fun env h => evSs b C s env h) n env h
  | .pass, env, h => .ok (.nx env) h
  | .brk, env, h => .ok (.bk env) h
  | .cnt, env, h => .ok (.ct env) h
  | .rais c es, env, h => (evEs b C es env h).bind fun ws h => match allD ws with
    | some ds => .ex c ds h
    | none => .bad
  | .frz i, env, h => evFrz i env h
def evSs (b : Nat) (C : CallF) : Ss → Vars → Hq → R Fl
  | .nil, env, h => .ok (.nx env) h
  | .cons s ss, env, h => (evS b C s env h).bind fun q h => match q with
    | .nx env => evSs b C ss env h
    | q => .ok q h
end

/-! ### defs -/
structure FD where
  np : Nat
  ns : Nat
  tr : Bool
  body : Ss

def fin (tr : Bool) (n : Nat) (w : W) (h : Hq) : R W := match tr with
  | false => .ok w h
  | true => match w with
    | .d x => .ok (.d x) (h.take n)
    | .l _ => .bad
def runF (C : CallF) (fd : FD) (b : Nat) (ws : List W) (h : Hq) : R W :=
  if ws.length = fd.np then
    match evSs (if fd.tr then h.length else b) C fd.body (ws.map some ++ List.replicate (fd.ns - fd.np) none) h with
    | .ok (.nx _) h' => fin fd.tr h.length (.d .none) h'
    | .ok (.rt w) h' => fin fd.tr h.length w h'
    | .ok _ _ => .bad
    | .ex c ds h' => .ex c ds (if fd.tr then h'.take h.length else h')
    | .bad => .bad
  else .bad
def callN (T : List FD) : Nat → CallF
  | 0, _, _, _, _ => .bad
  | n + 1, b, f, ws, h => match T[f]? with
    | some fd => runF (callN T n) fd b ws h
    | none => .bad
theorem mem_insU {x k : Int} : ∀ {l : List Int}, k ∈ insU x l ↔ k = x ∨ k ∈ l
  | [] => by simp [insU]
  | y :: ys => by
    unfold insU
    split
    · simp
    · split
      · rename_i h; subst h; simp
      · simp only [List.mem_cons, mem_insU (l := ys)]
        constructor
        · rintro (h | h | h) <;> simp [h]
        · rintro (h | h | h) <;> simp [h]
theorem mem_sortU {k : Int} : ∀ {ns : List Int}, k ∈ sortU ns ↔ k ∈ ns
  | [] => by simp [sortU]
  | n :: ns => by
    show k ∈ insU n (sortU ns) ↔ _
    rw [mem_insU, mem_sortU]
    simp
theorem asc_insU {x : Int} : ∀ {l : List Int}, l.Pairwise (· < ·) → (insU x l).Pairwise (· < ·)
  | [], _ => by simp [insU]
  | y :: ys, h => by
    rw [List.pairwise_cons] at h
    unfold insU
    split
    · rename_i hx
      refine List.pairwise_cons.mpr ⟨fun z hz => ?_, List.pairwise_cons.mpr h⟩
      rcases List.mem_cons.mp hz with e | e
      · omega
      · have := h.1 z e; omega
    · split
      · exact List.pairwise_cons.mpr h
      · refine List.pairwise_cons.mpr ⟨fun z hz => ?_, asc_insU h.2⟩
        rcases mem_insU.mp hz with e | e
        · omega
        · exact h.1 z e
theorem asc_sortU : ∀ ns : List Int, (sortU ns).Pairwise (· < ·)
  | [] => .nil
  | n :: ns => asc_insU (asc_sortU ns)
theorem asc_eq : ∀ {a b : List Int}, a.Pairwise (· < ·) → b.Pairwise (· < ·) → (∀ k, k ∈ a ↔ k ∈ b) → a = b := by
  intro a b ha hb h
  have na : a.Nodup := ha.imp fun h => by omega
  have nb : b.Nodup := hb.imp fun h => by omega
  refine List.Perm.eq_of_pairwise (le := (· ≤ ·)) (fun a b _ _ h1 h2 => Int.le_antisymm h1 h2) (ha.imp fun h => by omega) (hb.imp fun h => by omega) ((List.perm_ext_iff_of_nodup na nb).mpr h)
end Ev

/-! EvB: how a small state (h, env) stands for a heap and slots of the layer. -/
namespace Ev
open PySem PySem.Spec L2

section
variable {K : PySem.W.Frag}

def HpLe (F F' : Hp) : Prop := ∀ a o, F a = some o → F' a = some o
theorem HpLe.refl (F : Hp) : HpLe F F := fun _ _ h => h
theorem HpLe.trans {F F1 F2 : Hp} (a : HpLe F F1) (b : HpLe F1 F2) : HpLe F F2 := fun c o h => b c o (a c o h)
theorem HpLe.upd {F : Hp} {p : Addr} {o : HO} (h : F p = none) : HpLe F (upd F p o) := fun b u e => by
  rw [upd_ne (ne_of_none e h)]; exact e
theorem HpLe.rd {F F' : Hp} {a : Addr} {u : HO} (le : HpLe F F') (r : Rd F a u) : Rd F' a u := by
  rcases r with r | ⟨o, r⟩
  · exact .inl (le _ _ r)
  · exact .inr ⟨o, le _ _ r⟩
theorem HpLe.sql {F F' : Hp} {a : Addr} {xs : List V} (le : HpLe F F') (r : SqL K F a xs) : SqL K F' a xs := r.imp (le.rd) id
theorem HpLe.sqt {F F' : Hp} {a : Addr} {xs : List V} (le : HpLe F F') (r : SqT K F a xs) : SqT K F' a xs := r.imp (le.rd) id

mutual
theorem dp_mono {F F' : Hp} (le : HpLe F F') : ∀ (d : PyData) (v : V), Dp K F v d → Dp K F' v d
  | .none, _, h => by cases h; exact .non
  | .bool b, _, h => by cases h; exact .bl b
  | .int i, _, h => by cases h; exact .int i
  | .str x, _, h => by cases h; exact .str x
  | .list ds, _, h => by
    cases h with
    | lst hs ha => exact .lst (le.sql hs) (dps_mono le ds _ ha)
  | .tuple ds, _, h => by
    cases h with
    | tup hs ha => exact .tup (le.sqt hs) (dps_mono le ds _ ha)
  | .dict _, _, h => by cases h
theorem dps_mono {F F' : Hp} (le : HpLe F F') : ∀ (ds : List PyData) (vs : List V), DpAll K F vs ds → DpAll K F' vs ds
  | [], _, h => by cases h; exact .nil
  | d :: ds, _, h => by
    cases h with
    | cons h1 h2 => exact .cons (dp_mono le d _ h1) (dps_mono le ds _ h2)
end
mutual
theorem dp_plain {F : Hp} : ∀ (d : PyData) (v : V), Dp K F v d → d.plain = true
  | .none, _, _ => rfl
  | .bool b, _, _ => rfl
  | .int i, _, _ => rfl
  | .str x, _, _ => rfl
  | .list ds, _, h => by
    cases h with
    | lst hs ha => simp only [PyData.plain]; exact dps_plain ds _ ha
  | .tuple ds, _, h => by
    cases h with
    | tup hs ha => simp only [PyData.plain]; exact dps_plain ds _ ha
  | .dict _, _, h => by cases h
theorem dps_plain {F : Hp} : ∀ (ds : List PyData) (vs : List V), DpAll K F vs ds → PyData.plainAll ds = true
  | [], _, _ => rfl
  | d :: ds, _, h => by
    cases h with
    | cons h1 h2 => simp only [PyData.plainAll, dp_plain d _ h1, dps_plain ds _ h2, Bool.and_self]
end
end
end Ev
namespace L2
open PySem PySem.Spec
section
variable {K : PySem.W.Frag}
theorem DpAll.length {F : Hp} : ∀ {ds : List PyData} {vs : List V}, DpAll K F vs ds → vs.length = ds.length
  | [], _, h => by cases h; rfl
  | d :: ds, _, h => by
    cases h with
    | cons _ h2 => simp [DpAll.length h2]
theorem DpAll.app {F : Hp} : ∀ {xs ys : List PyData} {vs us : List V}, DpAll K F vs xs → DpAll K F us ys → DpAll K F (vs ++ us) (xs ++ ys)
  | [], _, _, _, h, g => by cases h; exact g
  | _ :: _, _, _, _, h, g => by
    cases h with
    | cons h1 h2 => exact .cons h1 (DpAll.app h2 g)
theorem DpAll.get {F : Hp} : ∀ {xs : List PyData} {vs : List V} {i : Nat} {x : PyData}, DpAll K F vs xs → xs[i]? = some x → ∃ v, vs[i]? = some v ∧ Dp K F v x
  | [], _, _, _, _, e => by simp at e
  | _ :: _, _, 0, _, h, e => by
    cases h with
    | cons h1 h2 => simp at e; subst e; exact ⟨_, rfl, h1⟩
  | _ :: xs, _, i + 1, _, h, e => by
    cases h with
    | cons h1 h2 => simpa using DpAll.get (i := i) h2 (by simpa using e)
theorem DpAll.set {F : Hp} {x : PyData} {v : V} (d : Dp K F v x) : ∀ {xs : List PyData} {vs : List V} (i : Nat), DpAll K F vs xs → DpAll K F (vs.set i v) (xs.set i x)
  | [], _, _, h => by cases h; exact .nil
  | _ :: _, _, 0, h => by
    cases h with
    | cons h1 h2 => exact .cons d h2
  | _ :: _, _, i + 1, h => by
    cases h with
    | cons h1 h2 => exact .cons h1 (DpAll.set d i h2)
theorem DpAll.take {F : Hp} : ∀ {xs : List PyData} {vs : List V} (n : Nat), DpAll K F vs xs → DpAll K F (vs.take n) (xs.take n)
  | _, _, 0, _ => by simp; exact .nil
  | [], _, _ + 1, h => by cases h; exact .nil
  | _ :: _, _, n + 1, h => by
    cases h with
    | cons h1 h2 => exact .cons h1 (DpAll.take n h2)
theorem DpAll.drop {F : Hp} : ∀ {xs : List PyData} {vs : List V} (n : Nat), DpAll K F vs xs → DpAll K F (vs.drop n) (xs.drop n)
  | _, _, 0, h => h
  | [], _, _ + 1, h => by cases h; exact .nil
  | _ :: _, _, n + 1, h => by
    cases h with
    | cons h1 h2 => exact DpAll.drop n h2
theorem DpAll.rep {F : Hp} {xs : List PyData} {vs : List V} (h : DpAll K F vs xs) : ∀ k : Nat, DpAll K F (List.replicate k vs).flatten (List.replicate k xs).flatten
  | 0 => .nil
  | k + 1 => by
    simp only [List.replicate_succ, List.flatten_cons]
    exact h.app (DpAll.rep h k)

end
end L2
namespace Ev
open PySem PySem.Spec L2
section
variable {K : PySem.W.Frag}
/-! ### values and objects -/
def WR (K : PySem.W.Frag) (m : List Addr) (F : Hp) (v : V) : W → Prop
  | .d x => Dp K F v x
  | .l n => ∃ a, m[n]? = some a ∧ v = .ref a
inductive WRs (K : PySem.W.Frag) (m : List Addr) (F : Hp) : List V → List W → Prop
  | nil : WRs K m F [] []
  | cons {v : V} {vs : List V} {w : W} {ws : List W} : WR K m F v w → WRs K m F vs ws → WRs K m F (v :: vs) (w :: ws)
theorem WRs.length {m : List Addr} {F : Hp} : ∀ {ws : List W} {vs : List V}, WRs K m F vs ws → vs.length = ws.length
  | [], _, h => by cases h; rfl
  | _ :: _, _, h => by
    cases h with
    | cons _ h2 => simp [WRs.length h2]
theorem WRs.app {m : List Addr} {F : Hp} : ∀ {xs ys : List W} {vs us : List V}, WRs K m F vs xs → WRs K m F us ys → WRs K m F (vs ++ us) (xs ++ ys)
  | [], _, _, _, h, g => by cases h; exact g
  | _ :: _, _, _, _, h, g => by
    cases h with
    | cons h1 h2 => exact .cons h1 (WRs.app h2 g)
theorem WRs.get {m : List Addr} {F : Hp} : ∀ {xs : List W} {vs : List V} {i : Nat} {x : W}, WRs K m F vs xs → xs[i]? = some x → ∃ v, vs[i]? = some v ∧ WR K m F v x
  | [], _, _, _, _, e => by simp at e
  | _ :: _, _, 0, _, h, e => by
    cases h with
    | cons h1 h2 => simp at e; subst e; exact ⟨_, rfl, h1⟩
  | _ :: xs, _, i + 1, _, h, e => by
    cases h with
    | cons h1 h2 => simpa using WRs.get (i := i) h2 (by simpa using e)
theorem WRs.set {m : List Addr} {F : Hp} {x : W} {v : V} (d : WR K m F v x) : ∀ {xs : List W} {vs : List V} (i : Nat), WRs K m F vs xs → WRs K m F (vs.set i v) (xs.set i x)
  | [], _, _, h => by cases h; exact .nil
  | _ :: _, _, 0, h => by
    cases h with
    | cons h1 h2 => exact .cons d h2
  | _ :: _, _, i + 1, h => by
    cases h with
    | cons h1 h2 => exact .cons h1 (WRs.set d i h2)
theorem WRs.ofD {m : List Addr} {F : Hp} : ∀ {xs : List PyData} {vs : List V}, DpAll K F vs xs → WRs K m F vs (xs.map .d)
  | [], _, h => by cases h; exact .nil
  | _ :: _, _, h => by
    cases h with
    | cons h1 h2 => exact .cons h1 (WRs.ofD h2)
theorem WRs.toD {m : List Addr} {F : Hp} : ∀ {ws : List W} {vs : List V} {xs : List PyData}, WRs K m F vs ws → allD ws = some xs → DpAll K F vs xs
  | [], _, _, h, e => by cases h; simp [allD] at e; subst e; exact .nil
  | .d x :: ws, _, _, h, e => by
    cases h with
    | cons h1 h2 =>
      simp only [allD, Option.map_eq_some_iff] at e
      obtain ⟨ys, e, rfl⟩ := e
      exact .cons h1 (WRs.toD h2 e)
  | .l _ :: _, _, _, _, e => by simp [allD] at e

structure MLe (m m' : List Addr) : Prop where
  pre : ∃ t, m' = m ++ t
theorem MLe.refl (m : List Addr) : MLe m m := ⟨[], by simp⟩
theorem MLe.trans {a b c : List Addr} (h : MLe a b) (g : MLe b c) : MLe a c := by
  obtain ⟨t, rfl⟩ := h.pre
  obtain ⟨u, rfl⟩ := g.pre
  exact ⟨t ++ u, by simp⟩
theorem MLe.get {m m' : List Addr} (h : MLe m m') {n : Nat} {a : Addr} (e : m[n]? = some a) : m'[n]? = some a := by
  obtain ⟨t, rfl⟩ := h.pre
  rw [List.getElem?_append_left (List.getElem?_eq_some_iff.mp e).1]; exact e
theorem MLe.mem {m m' : List Addr} (h : MLe m m') {a : Addr} (e : a ∈ m) : a ∈ m' := by
  obtain ⟨t, rfl⟩ := h.pre
  exact List.mem_append_left _ e
theorem wr_mono {m m' : List Addr} {F F' : Hp} {v : V} (l : MLe m m') (le : HpLe F F') : ∀ {w : W}, WR K m F v w → WR K m' F' v w
  | .d x, h => dp_mono le x v h
  | .l n, ⟨a, e, q⟩ => ⟨a, l.get e, q⟩
theorem wrs_mono {m m' : List Addr} {F F' : Hp} (l : MLe m m') (le : HpLe F F') : ∀ {ws : List W} {vs : List V}, WRs K m F vs ws → WRs K m' F' vs ws
  | [], _, h => by cases h; exact .nil
  | _ :: _, _, h => by
    cases h with
    | cons h1 h2 => exact .cons (wr_mono l le h1) (wrs_mono l le h2)

def refsW : W → List Nat
  | .d _ => []
  | .l n => [n]
def refs : Ob → List Nat
  | .lsw ws => ws.flatMap refsW
  | _ => []
def OR (K : PySem.W.Frag) (m : List Addr) (F H : Hp) (a : Addr) : Ob → Prop
  | .lst xs => F a = none ∧ ∃ vs, H a = some (.lst vs) ∧ DpAll K F vs xs
  | .lsw ws => F a = none ∧ ∃ vs, H a = some (.lst vs) ∧ WRs K m F vs ws
  | .dct _ => False
  | .dead => True

structure HR (K : PySem.W.Frag) (B : List Nat) (m : List Addr) (F : Hp) (h : Hq) (H : Hp) : Prop where
  len : m.length = h.length
  nd : m.Nodup
  ob : ∀ (n : Nat) (o : Ob) (a : Addr), h[n]? = some o → m[n]? = some a → OR K m F H a o
  sub : HpLe F H
  there : ∀ a ∈ m, H a ≠ none
  clo : ∀ c ∈ B, c ≤ h.length ∧ ∀ (n : Nat) (o : Ob) (k : Nat), n < c → h[n]? = some o → k ∈ refs o → k < c
structure SR (K : PySem.W.Frag) (B : List Nat) (m : List Addr) (F : Hp) (env : Vars) (h : Hq) (σ : St) (H : Hp) : Prop where
  hr : HR K B m F h H
  el : env.length ≤ σ.length
  var : ∀ (i : Nat) (w : W), env[i]? = some (some w) → ∃ v, σ[i]? = some (some v) ∧ WR K m F v w
/-- behind something: what was told stays -/
structure Ext (m : List Addr) (F H : Hp) (m' : List Addr) (F' H' : Hp) : Prop where
  ml : MLe m m'
  sub : HpLe F F'
  frm : ∀ a o, H a = some o → a ∉ m → H' a = some o
  new : ∀ a, a ∈ m' → a ∉ m → H a = none
  frf : ∀ a, a ∉ m → F a = none → H a ≠ none → F' a = none
theorem Ext.refl (m : List Addr) (F H : Hp) : Ext m F H m F H := ⟨.refl _, .refl _, fun _ _ h _ => h, fun _ h g => absurd h g, fun _ _ h _ => h⟩
theorem Ext.trans {m m1 m2 : List Addr} {F F1 F2 H H1 H2 : Hp} (a : Ext m F H m1 F1 H1) (b : Ext m1 F1 H1 m2 F2 H2) : Ext m F H m2 F2 H2 := by
  have nm : ∀ x o, H x = some o → x ∉ m → x ∉ m1 := fun x o e hx hm => by
    have := a.new x hm hx
    rw [e] at this; cases this
  refine ⟨a.ml.trans b.ml, a.sub.trans b.sub, fun x o e hx => b.frm x o (a.frm x o e hx) (nm x o e hx), fun x hx hm => ?_, fun x hx hf hh => ?_⟩
  · by_cases h1 : x ∈ m1
    · exact a.new x h1 hm
    · have := b.new x hx h1
      cases q : H x with
      | none => rfl
      | some o => rw [a.frm x o q hm] at this; cases this
  · obtain ⟨o, e⟩ := Option.ne_none_iff_exists'.mp hh
    exact b.frf x (nm x o e hx) (a.frf x hx hf hh) (by rw [a.frm x o e hx]; simp)

section
variable {B : List Nat} {m : List Addr} {F H : Hp} {env : Vars} {h : Hq} {σ : St} {p a : Addr} {n : Nat}
theorem HR.freeF (r : HR K B m F h H) (hp : H p = none) : F p = none := by
  cases q : F p with
  | none => rfl
  | some o => have := r.sub _ _ q; rw [hp] at this; cases this
theorem HR.freeM (r : HR K B m F h H) (hp : H p = none) : p ∉ m := fun hm => r.there p hm hp
theorem HR.at (r : HR K B m F h H) {o : Ob} (e : h[n]? = some o) : ∃ a, m[n]? = some a ∧ OR K m F H a o := by
  have hn : n < m.length := by rw [r.len]; exact (List.getElem?_eq_some_iff.mp e).1
  exact ⟨m[n], by simp [hn], r.ob n o _ e (by simp [hn])⟩
theorem or_mono {m' : List Addr} {F' H' : Hp} {o : Ob} (l : MLe m m') (le : HpLe F F') (hF : F a = none → F' a = none) (hH : ∀ u, H a = some u → F a = none → H' a = some u) (q : OR K m F H a o) : OR K m' F' H' a o := by
  cases o with
  | lst xs =>
    obtain ⟨f, vs, e, d⟩ := q
    exact ⟨hF f, vs, hH _ e f, dps_mono le _ _ d⟩
  | lsw ws =>
    obtain ⟨f, vs, e, d⟩ := q
    exact ⟨hF f, vs, hH _ e f, wrs_mono l le d⟩
  | dct _ => exact q
  | dead => trivial
/-- a new thing that never changes -/
theorem HR.newF (r : HR K B m F h H) {u : HO} (hp : H p = none) : HR K B m (upd F p u) h (upd H p u) ∧ Ext m F H m (upd F p u) (upd H p u) := by
  have fp := r.freeF hp
  have mp := r.freeM hp
  have le : HpLe F (upd F p u) := .upd fp
  refine ⟨⟨r.len, r.nd, fun n o a e ea => ?_, fun b o e => ?_, fun b hb => ?_, r.clo⟩, ⟨.refl _, le, fun b o e _ => by rw [upd_ne (ne_of_none e hp)]; exact e, fun _ x y => absurd x y, fun b hb hf hh => ?_⟩⟩
  · have hap : a ≠ p := fun z => mp (z ▸ List.mem_of_getElem? ea)
    exact or_mono (.refl _) le (fun f => by rw [upd_ne hap]; exact f) (fun u e _ => by rw [upd_ne hap]; exact e) (r.ob n o a e ea)
  · by_cases hb : b = p
    · subst hb; rw [upd_same] at e ⊢; exact e
    · rw [upd_ne hb] at e ⊢; exact r.sub b o e
  · rw [upd_ne (show b ≠ p from fun z => mp (z ▸ hb))]; exact r.there b hb
  · have hbp : b ≠ p := fun z => hh (z ▸ hp)
    rw [upd_ne hbp]; exact hf
theorem getElem?_snoc {α : Type} {l : List α} {x y : α} {i : Nat} (e : (l ++ [x])[i]? = some y) : (i < l.length ∧ l[i]? = some y) ∨ (i = l.length ∧ y = x) := by
  rcases Nat.lt_trichotomy i l.length with h | h | h
  · rw [List.getElem?_append_left h] at e; exact .inl ⟨h, e⟩
  · subst h; simp at e; exact .inr ⟨rfl, e.symm⟩
  · rw [List.getElem?_append_right (by omega)] at e
    have : i - l.length ≠ 0 := by omega
    obtain ⟨k, hk⟩ := Nat.exists_eq_succ_of_ne_zero this
    rw [hk] at e; simp at e
/-- a new object that may change; u: what stands at p -/
theorem HR.newL (r : HR K B m F h H) {u : HO} {o : Ob} (hp : H p = none) (ho : OR K (m ++ [p]) F (upd H p u) p o) (hc : ∀ c ∈ B, c ≤ h.length → True) : HR K B (m ++ [p]) F (h ++ [o]) (upd H p u) ∧ Ext m F H (m ++ [p]) F (upd H p u) := by
  have fp := r.freeF hp
  have mp := r.freeM hp
  have ml : MLe m (m ++ [p]) := ⟨[p], rfl⟩
  refine ⟨⟨by simp [r.len], ?_, fun n q a e ea => ?_, fun b q e => ?_, fun b hb => ?_, fun c hc => ?_⟩, ⟨ml, .refl _, fun b q e _ => by rw [upd_ne (ne_of_none e hp)]; exact e, fun b x y => ?_, fun _ _ hf _ => hf⟩⟩
  · rw [List.nodup_append]
    refine ⟨r.nd, by simp, fun a ha b hb => ?_⟩
    have : b = p := by simpa using hb
    subst this
    exact fun z => mp (z ▸ ha)
  · rcases getElem?_snoc e with ⟨hn, e⟩ | ⟨hn, rfl⟩
    · rw [List.getElem?_append_left (by rw [r.len]; exact hn)] at ea
      have hap : a ≠ p := fun z => mp (z ▸ List.mem_of_getElem? ea)
      exact or_mono ml (.refl _) id (fun u e _ => by rw [upd_ne hap]; exact e) (r.ob n q a e ea)
    · rw [hn, ← r.len] at ea
      simp at ea
      subst ea; exact ho
  · rw [upd_ne (fun z => by subst z; rw [fp] at e; cases e)]; exact r.sub b q e
  · rcases List.mem_append.mp hb with hb | hb
    · rw [upd_ne (show b ≠ p from fun z => mp (z ▸ hb))]; exact r.there b hb
    · have : b = p := by simpa using hb
      subst this; rw [upd_same]; simp
  · obtain ⟨h1, h2⟩ := r.clo c hc
    refine ⟨by simp; omega, fun n q k hn e hk => ?_⟩
    rw [List.getElem?_append_left (by omega)] at e
    exact h2 n q k hn e hk
  · rcases List.mem_append.mp x with x | x
    · exact absurd x y
    · have : b = p := by simpa using x
      subst this; exact hp
theorem nd_ne {l : List Addr} (hN : l.Nodup) {i j : Nat} {x y : Addr} (a : l[i]? = some x) (b : l[j]? = some y) (ne : i ≠ j) : x ≠ y := fun z => by
  subst z
  obtain ⟨h1, e1⟩ := List.getElem?_eq_some_iff.mp a
  obtain ⟨h2, e2⟩ := List.getElem?_eq_some_iff.mp b
  exact ne ((List.getElem_inj hN).mp (e1.trans e2.symm))
/-- an object changes -/
theorem HR.put (r : HR K B m F h H) {u : HO} {o : Ob} (hm : m[n]? = some a) (fa : F a = none) (ho : OR K m F (upd H a u) a o) (hc : ∀ c ∈ B, n < c → ∀ k ∈ refs o, k < c) :
    HR K B m F (h.set n o) (upd H a u) ∧ Ext m F H m F (upd H a u) := by
  have am : a ∈ m := List.mem_of_getElem? hm
  refine ⟨⟨by simp [r.len], r.nd, fun k q b e eb => ?_, fun b q e => ?_, fun b hb => ?_, fun c hB => ?_⟩, ⟨.refl _, .refl _, fun b q e hb => ?_, fun _ x y => absurd x y, fun _ _ hf _ => hf⟩⟩
  · by_cases hk : k = n
    · subst hk
      have hl : k < h.length := by rw [← r.len]; exact (List.getElem?_eq_some_iff.mp hm).1
      rw [List.getElem?_set_self hl] at e
      rw [hm] at eb
      cases e; cases eb; exact ho
    · rw [List.getElem?_set_ne (Ne.symm hk)] at e
      have hab : b ≠ a := nd_ne r.nd eb hm hk
      exact or_mono (.refl _) (.refl _) id (fun u e _ => by rw [upd_ne hab]; exact e) (r.ob k q b e eb)
  · rw [upd_ne (fun z => by subst z; rw [fa] at e; cases e)]; exact r.sub b q e
  · by_cases hb' : b = a
    · subst hb'; rw [upd_same]; simp
    · rw [upd_ne hb']; exact r.there b hb
  · obtain ⟨h1, h2⟩ := r.clo c hB
    refine ⟨by simpa using h1, fun k q j hk e hj => ?_⟩
    by_cases hkn : k = n
    · subst hkn
      have hl : k < h.length := by omega
      rw [List.getElem?_set_self hl] at e
      cases e
      exact hc c hB hk j hj
    · rw [List.getElem?_set_ne (Ne.symm hkn)] at e
      exact h2 k q j hk e hj
  · rw [upd_ne (show b ≠ a from fun z => hb (z ▸ am))]; exact e
/-- a list is never changed from here on -/
theorem HR.frz (r : HR K B m F h H) {vs : List V} (hm : m[n]? = some a) (fa : F a = none) (e : H a = some (.lst vs)) :
    HR K B m (upd F a (.lst vs)) (h.set n .dead) H ∧ Ext m F H m (upd F a (.lst vs)) H := by
  have am : a ∈ m := List.mem_of_getElem? hm
  have le : HpLe F (upd F a (.lst vs)) := .upd fa
  refine ⟨⟨by simp [r.len], r.nd, fun k q b eq eb => ?_, fun b q eq => ?_, r.there, fun c hB => ?_⟩, ⟨.refl _, le, fun b q e _ => e, fun _ x y => absurd x y, fun b hb hf _ => ?_⟩⟩
  · by_cases hk : k = n
    · subst hk
      have hl : k < h.length := by rw [← r.len]; exact (List.getElem?_eq_some_iff.mp hm).1
      rw [List.getElem?_set_self hl] at eq
      cases eq; trivial
    · rw [List.getElem?_set_ne (Ne.symm hk)] at eq
      have hab : b ≠ a := nd_ne r.nd eb hm hk
      exact or_mono (.refl _) le (fun f => by rw [upd_ne hab]; exact f) (fun u e _ => e) (r.ob k q b eq eb)
  · by_cases hb : b = a
    · subst hb; rw [upd_same] at eq; cases eq; exact e
    · rw [upd_ne hb] at eq; exact r.sub b q eq
  · obtain ⟨h1, h2⟩ := r.clo c hB
    refine ⟨by simpa using h1, fun k q j hk eq hj => ?_⟩
    by_cases hkn : k = n
    · subst hkn
      have hl : k < h.length := by omega
      rw [List.getElem?_set_self hl] at eq
      cases eq
      simp [refs] at hj
    · rw [List.getElem?_set_ne (Ne.symm hkn)] at eq
      exact h2 k q j hk eq hj
  · rw [upd_ne (show b ≠ a from fun z => hb (z ▸ am))]; exact hf
/-- an unseen change: something else that is tracked -/
theorem HR.other (r : HR K B m F h H) {u : HO} (fp : F p = none) (mp : p ∉ m) : HR K B m F h (upd H p u) := by
  refine ⟨r.len, r.nd, fun n o a e ea => ?_, fun b o e => ?_, fun b hb => ?_, r.clo⟩
  · have hap : a ≠ p := fun z => mp (z ▸ List.mem_of_getElem? ea)
    exact or_mono (.refl _) (.refl _) id (fun u e _ => by rw [upd_ne hap]; exact e) (r.ob n o a e ea)
  · rw [upd_ne (fun z => by subst z; rw [fp] at e; cases e)]; exact r.sub b o e
  · rw [upd_ne (show b ≠ p from fun z => mp (z ▸ hb))]; exact r.there b hb
theorem take_app {α : Type} {m t : List α} {k : Nat} (hk : k ≤ m.length) : (m ++ t).take k = m.take k := by
  rw [List.take_append_of_le_length hk]
/-- behind a call: what it made is forgotten -/
theorem HR.cut {c : Nat} {m' : List Addr} {F' H' : Hp} {h' : Hq} (r : HR K (c :: B) m' F' h' H') (ml : MLe m m') (hc : c = m.length) (hB : ∀ d ∈ B, d ≤ c) : HR K B m F' (h'.take c) H' := by
  obtain ⟨t, rfl⟩ := ml.pre
  obtain ⟨c1, c2⟩ := r.clo c List.mem_cons_self
  have hl : (h'.take c).length = c := by rw [List.length_take]; omega
  refine ⟨by rw [hl, hc], (List.nodup_append.mp r.nd).1, fun n o a e ea => ?_, r.sub, fun a ha => r.there a (List.mem_append_left _ ha), fun d hd => ?_⟩
  · have hn : n < c := by rw [← hl]; exact (List.getElem?_eq_some_iff.mp e).1
    rw [List.getElem?_take_of_lt hn] at e
    have q := r.ob n o a e (by rw [List.getElem?_append_left (by omega)]; exact ea)
    cases o with
    | lst xs => exact q
    | lsw ws =>
      obtain ⟨f, vs, eH, d⟩ := q
      refine ⟨f, vs, eH, ?_⟩
      have hk : ∀ k ∈ refs (.lsw ws), k < c := fun k hk => c2 n _ k hn e hk
      clear e eH
      induction d with
      | nil => exact .nil
      | cons d1 d2 ih =>
        rename_i w ws'
        refine .cons ?_ (ih fun k hk' => hk k (by simp only [refs, List.flatMap_cons, List.mem_append]; exact .inr hk'))
        cases w with
        | d x => exact d1
        | l j =>
          obtain ⟨b, eb, rfl⟩ := d1
          have hj : j < c := hk j (by simp [refs, refsW])
          rw [List.getElem?_append_left (by omega)] at eb
          exact ⟨b, eb, rfl⟩
    | dct _ => exact q
    | dead => trivial
  · obtain ⟨h1, h2⟩ := r.clo d (List.mem_cons_of_mem _ hd)
    have hdc := hB d hd
    refine ⟨by rw [hl]; exact hdc, fun n o k hn e hk => ?_⟩
    rw [List.getElem?_take_of_lt (by omega)] at e
    exact h2 n o k hn e hk
end
end
end Ev

/-! EvC: the operators: what the layer asks of a value is what the evaluator gives. -/
namespace Ev
open PySem PySem.Spec L2

/-- what is told of an exception: its number, its data; its class, its dict, in F and the heap -/
abbrev XRel := Nat → List PyData → Value → Option Addr → Hp → Hp → Prop

section
variable {K : PySem.W.Frag} {xr : XRel}
/-- what must hold behind something that ends as r -/
def PostG (K : PySem.W.Frag) (xr : XRel) {α : Type} (B : List Nat) (Wx : WX) (m : List Addr) (F : Hp) (env : Vars) (σ : L2.St) (H : Hp) (r : R α) (P : α → Hq → List Addr → Hp → Hp → Prop) : Prop := match r with
  | .ok a h' => ∀ m' F' H', Ext m F H m' F' H' → SR K B m' F' env h' σ H' → P a h' m' F' H'
  | .ex c ds h' => ∀ m' F' H' cls dx, Ext m F H m' F' H' → HR K B m' F' h' H' → xr c ds cls dx F' H' → Wx cls dx σ H'
  | .bad => False
/-- .. where a value is asked for -/
def PV (K : PySem.W.Frag) (Q : VK) : W → Hq → List Addr → Hp → Hp → Prop := fun w _ m' F' H' => ∀ v, WR K m' F' v w → Q v H'
abbrev PostE (K : PySem.W.Frag) (xr : XRel) (B : List Nat) (Wx : WX) (m : List Addr) (F : Hp) (env : Vars) (σ : L2.St) (H : Hp) (r : R W) (Q : VK) : Prop := PostG K xr B Wx m F env σ H r (PV K Q)

/-- an expression's reading by its value -/
def tE (K : PySem.W.Frag) (xr : XRel) (B : List Nat) (Wx : WX) (f : Vars → Hq → R W) : TE := fun σ H Q => ∃ m F env h, SR K B m F env h σ H ∧ PostE K xr B Wx m F env σ H (f env h) Q
def tA (K : PySem.W.Frag) (xr : XRel) (B : List Nat) (Wx : WX) (f : Vars → Hq → R (List W)) : TA := fun σ H Q => ∃ m F env h, SR K B m F env h σ H ∧ PostG K xr B Wx m F env σ H (f env h) (fun ws _ m' F' H' => ∀ vs, WRs K m' F' vs ws → Q vs H')
def tT (K : PySem.W.Frag) (xr : XRel) (B : List Nat) (Wx : WX) (f : Vars → Hq → R W) : TT := fun σ H Q => ∃ m F env h, SR K B m F env h σ H ∧ PostG K xr B Wx m F env σ H (f env h) (fun w _ _ _ H' => ∃ k, w = .d (.bool k) ∧ Q k H')

section
variable {B : List Nat} {Wx : WX} {m : List Addr} {F H : Hp} {env : Vars} {h : Hq} {σ : L2.St} {Q : VK} {α β : Type}
theorem PostG.mono {r : R α} {P P' : α → Hq → List Addr → Hp → Hp → Prop} (p : PostG K xr B Wx m F env σ H r P) (i : ∀ a h1 m1 F1 H1, Ext m F H m1 F1 H1 → SR K B m1 F1 env h1 σ H1 → P a h1 m1 F1 H1 → P' a h1 m1 F1 H1) : PostG K xr B Wx m F env σ H r P' := by
  cases r with
  | ok a h' => exact fun m' F' H' e s => i a h' m' F' H' e s (p m' F' H' e s)
  | ex c ds h' => exact p
  | bad => exact p
theorem PostG.bind {r : R α} {f : α → Hq → R β} {P : β → Hq → List Addr → Hp → Hp → Prop} (p : PostG K xr B Wx m F env σ H (r.bind f) P) :
    PostG K xr B Wx m F env σ H r (fun a h1 m1 F1 H1 => PostG K xr B Wx m1 F1 env σ H1 (f a h1) P) := by
  cases r with
  | ok a h1 =>
    intro m1 F1 H1 e1 s1
    have p : PostG K xr B Wx m F env σ H (f a h1) P := p
    show PostG K xr B Wx m1 F1 env σ H1 (f a h1) P
    cases q : f a h1 with
    | ok b h2 =>
      rw [q] at p
      exact fun m2 F2 H2 e2 s2 => p m2 F2 H2 (e1.trans e2) s2
    | ex c ds h2 =>
      rw [q] at p
      exact fun m2 F2 H2 cls dx e2 s2 x => p m2 F2 H2 cls dx (e1.trans e2) s2 x
    | bad => rw [q] at p; exact p
  | ex c ds h1 => exact p
  | bad => exact p
theorem PostE.now {w : W} {v : V} (p : PostE K xr B Wx m F env σ H (.ok w h) Q) (s : SR K B m F env h σ H) (r : WR K m F v w) : Q v H := p m F H (.refl ..) s v r

theorem SR.newF (s : SR K B m F env h σ H) {u : HO} {p : Addr} (hp : H p = none) : SR K B m (upd F p u) env h σ (upd H p u) ∧ Ext m F H m (upd F p u) (upd H p u) := by
  obtain ⟨r, e⟩ := s.hr.newF (u := u) hp
  exact ⟨⟨r, s.el, fun i w q => let ⟨v, h1, h2⟩ := s.var i w q; ⟨v, h1, wr_mono e.ml e.sub h2⟩⟩, e⟩
theorem SR.ext (s : SR K B m F env h σ H) {m' : List Addr} {F' H' : Hp} {h' : Hq} (r : HR K B m' F' h' H') (e : Ext m F H m' F' H') : SR K B m' F' env h' σ H' :=
  ⟨r, s.el, fun i w q => let ⟨v, h1, h2⟩ := s.var i w q; ⟨v, h1, wr_mono e.ml e.sub h2⟩⟩
theorem PostE.newF {d : PyData} {u : HO} {p : Addr} (q : PostE K xr B Wx m F env σ H (.ok (.d d) h) Q) (s : SR K B m F env h σ H) (hp : H p = none) (r : Dp K (upd F p u) (.ref p) d) : Q (.ref p) (upd H p u) := by
  obtain ⟨s', e⟩ := s.newF (u := u) hp
  exact q _ _ _ e s' _ r
theorem PostE.newL {o : Ob} {u : HO} {p : Addr} (q : PostE K xr B Wx m F env σ H (.ok (.l h.length) (h ++ [o])) Q) (s : SR K B m F env h σ H) (hp : H p = none) (ho : OR K (m ++ [p]) F (upd H p u) p o) : Q (.ref p) (upd H p u) := by
  obtain ⟨r, e⟩ := s.hr.newL hp ho (fun _ _ _ => trivial)
  exact q _ _ _ e (s.ext r e) _ ⟨p, by rw [← s.hr.len]; simp, rfl⟩

theorem sq_new {p : Addr} {xs : List V} : SqL K (upd F p (.lst xs)) p xs := .inl (.inl upd_same)
theorem st_new {p : Addr} {xs : List V} : SqT K (upd F p (.tup xs)) p xs := .inl (.inl upd_same)
theorem dp_newL {p : Addr} {vs : List V} {ds : List PyData} (s : HR K B m F h H) (hp : H p = none) (d : DpAll K F vs ds) : Dp K (upd F p (.lst vs)) (.ref p) (.list ds) :=
  .lst sq_new (dps_mono (.upd (s.freeF hp)) _ _ d)
theorem dp_newT {p : Addr} {vs : List V} {ds : List PyData} (s : HR K B m F h H) (hp : H p = none) (d : DpAll K F vs ds) : Dp K (upd F p (.tup vs)) (.ref p) (.tuple ds) :=
  .tup st_new (dps_mono (.upd (s.freeF hp)) _ _ d)

/-- a value, read now -/
inductive Now (K : PySem.W.Frag) (F H : Hp) : V → PyData → Prop
  | now {v : V} {d : PyData} : Dp K F v d → Now K F H v d
  | lst {a : Addr} {vs : List V} {ds : List PyData} : H a = some (.lst vs) → DpAll K F vs ds → Now K F H (.ref a) (.list ds)
theorem now_of (s : HR K B m F h H) {w : W} {v : V} {d : PyData} (r : WR K m F v w) (e : toD h w = some d) : Now K F H v d := by
  cases w with
  | d x => simp only [toD, Option.some.injEq] at e; subst e; exact .now r
  | l n =>
    obtain ⟨a, em, rfl⟩ := r
    simp only [toD] at e
    split at e
    · rename_i xs eo
      cases e
      obtain ⟨f, vs, eH, dd⟩ := s.ob n _ a eo em
      exact .lst eH dd
    · cases e
theorem Now.dp {v : V} {d : PyData} (n : Now K F H v d) (le : HpLe F H) : Dp K H v d := by
  cases n with
  | now r => exact dp_mono le _ _ r
  | lst e r => exact .lst (.of e) (dps_mono le _ _ r)
theorem Now.list {v : V} {ds : List PyData} (n : Now K F H v (.list ds)) (le : HpLe F H) : ∃ a vs, v = .ref a ∧ SqL K H a vs ∧ DpAll K F vs ds := by
  cases n with
  | now r =>
    cases r with
    | lst h1 h2 => exact ⟨_, _, rfl, le.sql h1, h2⟩
  | lst e r => exact ⟨_, _, rfl, .of e, r⟩
theorem Now.tuple {v : V} {ds : List PyData} (n : Now K F H v (.tuple ds)) (le : HpLe F H) : ∃ a vs, v = .ref a ∧ SqT K H a vs ∧ DpAll K F vs ds ∧ Dp K F v (.tuple ds) := by
  cases n with
  | now r =>
    have r' := r
    cases r with
    | tup h1 h2 => exact ⟨_, _, rfl, le.sqt h1, h2, r'⟩
theorem Now.int {v : V} {i : Int} (n : Now K F H v (.int i)) : v = .int i := by
  cases n with
  | now r => cases r; rfl
theorem Now.str {v : V} {i : Str} (n : Now K F H v (.str i)) : v = .str i := by
  cases n with
  | now r => cases r; rfl
end

/-! ### operators -/
theorem sOk_ok {i j : Int} (h : sOk i j = true) : CMul i j := by unfold sOk at h; simpa [CMul] using h
theorem divOk_ok {j : Int} (h : divOk j = true) : j ≠ 0 ∧ j.natAbs < 1073741824 := by unfold divOk at h; exact of_decide_eq_true h
theorem powOk_ok {i j : Int} (h : powOk i j = true) : 0 ≤ j ∧ j ≤ 1000000 ∧ i.natAbs < 2 ^ 64 := by unfold powOk at h; exact of_decide_eq_true h
section
variable {X : Cx} {B : List Nat} {Wx : WX}
theorem op_catL : OpR X (binaryOp .Add) (fun x y H Q => ∃ l b xs zs, x = .ref l ∧ y = .ref b ∧ SqL X.K H l xs ∧ SqL X.K H b zs ∧ xs.length + zs.length ≤ sizeLine ∧ ∀ p, H p = none → Q (.ref p) (upd H p (.lst (xs ++ zs)))) := by
  intro pins s σ H x y v u Q I rx ry h
  obtain ⟨l, b, xs, zs, rfl, rfl, hH, hB, hz, q⟩ := h
  cases rx
  cases ry
  obtain ⟨its, r, ⟨⟨cls, dd, data, sl⟩, n, ho, hc, _, hd⟩, _⟩ := I.list hH
  obtain ⟨its2, r2, ⟨⟨cls2, dd2, data2, sl2⟩, n2, ho2, hc2, _, hd2⟩, _⟩ := I.list hB
  simp only at hc hd hc2 hd2
  subst hc hd hc2 hd2
  have e : its.toArray ++ its2.toArray = (its ++ its2).toArray := by simp
  refine concat_meets ⟨_, ho, rfl⟩ ⟨_, ho2, rfl⟩ noFill_list_add seq_list_add PySem.F.slot_list_add PySem.F.entry_list_add (PySem.F.args_list_add_2 _ _) (PyProof.Rows.list_addW l b its.toArray its2.toArray n n2 dd dd2 sl sl2 (by rw [List.size_toArray, List.size_toArray, ← r.length, ← r2.length]; exact hz)) ⟨ho, ho2, ?_⟩
  rw [e]
  exact ⟨.ref _, _, I.lnew (t' := s.toks) (r.append r2) (by rw [List.length_append]; omega), rfl, q _ I.fresh⟩

/-- the reading of an operator: as the evaluator says -/
def rOp (K : PySem.W.Frag) (xr : XRel) (B : List Nat) (Wx : WX) (f : W → W → Hq → R W) : R2 := fun x y H Q => ∃ m F env h σ v w, SR K B m F env h σ H ∧ WR K m F x v ∧ WR K m F y w ∧ PostE K xr B Wx m F env σ H (f v w h) Q

theorem op2_cases {f : PyData → PyData → Option PyData} {v w : W} {h : Hq} {m : List Addr} {F H : Hp} {env : Vars} {σ : L2.St} {Q : VK} (p : PostE K xr B Wx m F env σ H (op2 f v w h) Q) :
    ∃ d e r, toD h v = some d ∧ toD h w = some e ∧ f d e = some r ∧ PostE K xr B Wx m F env σ H (.ok (.d r) h) Q := by
  unfold op2 at p
  split at p
  · rename_i d e h1 h2
    unfold liftO at p
    split at p
    · rename_i r h3
      exact ⟨d, e, r, h1, h2, h3, p⟩
    · exact p.elim
  · exact p.elim
theorem sz_eq : (SZ : Nat) = sizeLine := by rw [PySem.sizeLine_eq]; rfl

theorem op_bin (o : Operator) : OpR X (binaryOp o) (rOp X.K xr B Wx (op2 (evBin o))) := by
  intro pins s σ H x y v u Q I rx ry hq
  obtain ⟨m, F, env, h, σ', w1, w2, S, r1, r2, p⟩ := hq
  obtain ⟨d, e, r, t1, t2, ev, p⟩ := op2_cases p
  have n1 := now_of S.hr r1 t1
  have n2 := now_of S.hr r2 t2
  have fin : ∀ {v : V}, Dp X.K F v r → Q v H := fun q => PostE.now p S q
  have szE := sz_eq
  cases o <;> cases d <;> cases e <;> simp only [evBin, reduceCtorEq] at ev
  -- int + int, str + str, list + list, tuple + tuple
  case Add.int.int i j => cases n1.int; cases n2.int; cases ev; exact op_add pins s σ H _ _ v u Q I rx ry ⟨i, j, rfl, rfl, fin (.int _)⟩
  case Add.str.str i j =>
    split at ev
    · cases n1.str; cases n2.str; cases ev
      exact op_add_str pins s σ H _ _ v u Q I rx ry ⟨i, j, rfl, rfl, by omega, fin (.str _)⟩
    · cases ev
  case Add.list.list i j =>
    split at ev
    · cases ev
      obtain ⟨a, vs, rfl, s1, d1⟩ := n1.list S.hr.sub
      obtain ⟨b, us, rfl, s2, d2⟩ := n2.list S.hr.sub
      have l1 := d1.length
      have l2 := d2.length
      exact op_catL pins s σ H _ _ v u Q I rx ry ⟨a, b, vs, us, rfl, rfl, s1, s2, by omega, fun q hq => PostE.newF p S hq (dp_newL S.hr hq (d1.app d2))⟩
    · cases ev
  case Add.tuple.tuple i j =>
    split at ev
    · cases ev
      obtain ⟨a, vs, rfl, s1, d1, e1⟩ := n1.tuple S.hr.sub
      obtain ⟨b, us, rfl, s2, d2, e2⟩ := n2.tuple S.hr.sub
      have l1 := d1.length
      have l2 := d2.length
      refine op_catA pins s σ H _ _ v u Q I rx ry ⟨a, b, vs, us, rfl, rfl, s1, s2, by omega, fun z => fin ?_, fun _ z => fin ?_, fun _ _ q hq => PostE.newF p S hq (dp_newT S.hr hq (d1.app d2))⟩
      · subst z
        cases d1
        simpa using e2
      · subst z
        cases d2
        simpa using e1
    · cases ev
  case Sub.int.int i j => cases n1.int; cases n2.int; cases ev; exact op_sub pins s σ H _ _ v u Q I rx ry ⟨i, j, rfl, rfl, fin (.int _)⟩
  case Mult.int.int i j =>
    split at ev
    · rename_i hc
      cases n1.int; cases n2.int; cases ev
      exact op_mul pins s σ H _ _ v u Q I rx ry ⟨i, j, rfl, rfl, sOk_ok hc, fin (.int _)⟩
    · cases ev
  case FloorDiv.int.int i j =>
    split at ev
    · rename_i hc
      cases n1.int; cases n2.int; cases ev
      exact op_fdivN pins s σ H _ _ v u Q I rx ry ⟨i, j, rfl, rfl, divOk_ok hc, fin (.int _)⟩
    · cases ev
  case Mod.int.int i j =>
    split at ev
    · rename_i hc
      cases n1.int; cases n2.int; cases ev
      exact op_modN pins s σ H _ _ v u Q I rx ry ⟨i, j, rfl, rfl, hc, fin (.int _)⟩
    · cases ev
  case Pow.int.int i j =>
    split at ev
    · rename_i hc
      cases n1.int; cases n2.int; cases ev
      exact op_pow pins s σ H _ _ v u Q I rx ry ⟨i, j, rfl, rfl, powOk_ok hc, fin (.int _)⟩
    · cases ev
  case LShift.int.int i j =>
    split at ev
    · rename_i hc
      cases n1.int; cases n2.int; cases ev
      exact op_shl pins s σ H _ _ v u Q I rx ry ⟨i, j, rfl, rfl, powOk_ok hc, fin (.int _)⟩
    · cases ev

/-! ### comparisons -/
theorem op_cmp (hu : X.A.units + 200 < cLine) (o : CmpOp) : OpR X (compareOp o) (rOp X.K xr B Wx (op2 (evCmp o))) := by
  intro pins s σ H x y v u Q I rx ry hq
  obtain ⟨m, F, env, h, σ', w1, w2, S, r1, r2, p⟩ := hq
  obtain ⟨d, e, r, t1, t2, ev, p⟩ := op2_cases p
  have n1 := now_of S.hr r1 t1
  have n2 := now_of S.hr r2 t2
  have fin : ∀ {v : V}, Dp X.K F v r → Q v H := fun q => PostE.now p S q
  have d1 := n1.dp S.hr.sub
  have d2 := n2.dp S.hr.sub
  have p1 := dp_plain _ _ d1
  have p2 := dp_plain _ _ d2
  obtain ⟨as, q1⟩ := Dp.reads I d x v d1 rx
  obtain ⟨bs, q2⟩ := Dp.reads I e y u d2 ry
  have bl : ∀ {k : Bool}, r = .bool k → EP X pins σ Q (.bool k) s := fun {k} ek => by
    subst ek
    exact ⟨.bl k, H, I, rfl, fin (.bl k)⟩
  cases o
  case Eq =>
    simp only [evCmp] at ev
    split at ev
    · rename_i hc
      cases ev
      have hm : min d.depth e.depth ≤ 150 := by
        rcases Bool.or_eq_true _ _ ▸ hc with z | z
        · have := of_decide_eq_true z; omega
        · have := of_decide_eq_true z; omega
      exact SeqAt.eq_plain q1 q2 p1 p2 (by omega) (bl rfl)
    · cases ev
  case NotEq =>
    simp only [evCmp] at ev
    split at ev
    · rename_i hc
      cases ev
      have hm : min d.depth e.depth ≤ 150 := by
        rcases Bool.or_eq_true _ _ ▸ hc with z | z
        · have := of_decide_eq_true z; omega
        · have := of_decide_eq_true z; omega
      exact SeqAt.ne_plain q1 q2 p1 p2 (by omega) (bl rfl)
    · cases ev
  case In =>
    cases e <;> simp only [evCmp, reduceCtorEq] at ev
    case list ys =>
      split at ev
      · rename_i hc
        cases ev
        have := of_decide_eq_true hc
        exact SeqAt.in_list_data q2 q1 (by simpa [PyData.plain] using p2) p1 (by omega) (bl rfl)
      · cases ev
    case tuple ys =>
      split at ev
      · rename_i hc
        cases ev
        have := of_decide_eq_true hc
        exact SeqAt.in_tuple_data q2 q1 (by simpa [PyData.plain] using p2) p1 (by omega) (bl rfl)
      · cases ev
  case NotIn =>
    cases e <;> simp only [evCmp, reduceCtorEq] at ev
    case list ys =>
      split at ev
      · rename_i hc
        cases ev
        have := of_decide_eq_true hc
        exact SeqAt.notIn_list_data q2 q1 (by simpa [PyData.plain] using p2) p1 (by omega) (bl rfl)
      · cases ev
    case tuple ys =>
      split at ev
      · rename_i hc
        cases ev
        have := of_decide_eq_true hc
        exact SeqAt.notIn_tuple_data q2 q1 (by simpa [PyData.plain] using p2) p1 (by omega) (bl rfl)
      · cases ev
  all_goals (cases d <;> cases e <;> simp only [evCmp, reduceCtorEq] at ev)
  case Lt.int.int i j => cases n1.int; cases n2.int; cases ev; exact op_lt pins s σ H _ _ v u Q I rx ry ⟨i, j, rfl, rfl, fin (.bl _)⟩
  case LtE.int.int i j => cases n1.int; cases n2.int; cases ev; exact op_le pins s σ H _ _ v u Q I rx ry ⟨i, j, rfl, rfl, fin (.bl _)⟩
  case Gt.int.int i j => cases n1.int; cases n2.int; cases ev; exact op_gt pins s σ H _ _ v u Q I rx ry ⟨i, j, rfl, rfl, fin (.bl _)⟩
  case GtE.int.int i j => cases n1.int; cases n2.int; cases ev; exact op_ge pins s σ H _ _ v u Q I rx ry ⟨i, j, rfl, rfl, fin (.bl _)⟩
end
end
end Ev

/-! EvD: which term stands for which piece of the text (matE), and that its value is what the layer's reading asks (sndE). -/
namespace Ev
open PySem PySem.Spec L2

/-! ### the terms of a text -/
structure ME where
  N : List Str
  fn : List Str
  gi : List (Str × Int)

def isGl (sc : Scope) (x : Str) : Bool := decide (sc.names.lookup x = some .globalImplicit)
def isVis (sc : Scope) (x : Str) : Bool := match sc.names.lookup x with
  | some .local => true
  | some .cell => true
  | some .free => true
  | _ => false
def isSto (sc : Scope) (x : Str) : Bool := match sc.names.lookup x with
  | some .local => true
  | some .cell => true
  | _ => false
def plainN (x : Str) : Bool := decide (x ≠ ("__debug__" : Str)) && decide (x ≠ ("__classdict__" : Str)) && decide (x ≠ ("__name__" : Str))
def notStar : Expr → Bool
  | .Starred _ _ => false
  | _ => true
def notSlice : Expr → Bool
  | .Slice _ _ _ _ => false
  | _ => true
def notSet : Expr → Bool
  | .Set _ _ _ => false
  | _ => true
def notIf : Expr → Bool
  | .IfExp _ _ _ _ => false
  | _ => true
def isBO : Expr → Bool
  | .BoolOp _ _ _ => true
  | _ => false
def notCall0 : Expr → Bool
  | .Call (.Name _ _) [] [] _ => false
  | _ => true
def matC : PyData → Const → Bool
  | .int i, .int j => decide (i = j)
  | .bool i, .bool j => decide (i = j)
  | .str i, .str j => decide (i = j)
  | .none, .none => true
  | _, _ => false
def Bt.nm : Bt → Str
  | .len => "len" | .tuple => "tuple" | .int => "int" | .sum => "sum" | .max => "max" | .min => "min" | .all => "all" | .any => "any" | .sorted => "sorted"
  | .list => "list" | .repr => "repr" | .str => "str" | .max2 => "max" | .min2 => "min"
def Bt.isTy : Bt → Bool
  | .tuple => true | .int => true | .list => true | .str => true
  | _ => false
def Mt.nm : Mt → Str
  | .count => "count" | .index => "index" | .get => "get" | .pop => "pop"
def Es.len : Es → Nat
  | .nil => 0
  | .cons _ es => es.len + 1
def isAt (N : List Str) (i : Nat) (x : Str) : Bool := decide (N[i]? = some x)
def matTs (N : List Str) (sto : Str → Bool) : List Nat → List Expr → Bool
  | [], [] => true
  | i :: is, .Name x _ :: ps => isAt N i x && sto x && matTs N sto is ps
  | _, _ => false
def matT (N : List Str) (sto : Str → Bool) (t : List Nat) (u : Bool) (tg : Expr) : Bool := match u, t, tg with
  | false, [i], .Name x _ => isAt N i x && sto x
  | true, t, .Tuple ps _ _ => matTs N sto t ps
  | _, _, _ => false
def ownOf (N : List Str) (t : List Nat) : List (Str × Nat) := t.filterMap fun i => (N[i]?).map fun x => (x, i)

def Ity.nm : Ity → Str
  | .int => "int" | .bool => "bool" | .str => "str" | .tuple => "tuple"
def isTy (sc : Scope) (c : Ity) : Expr → Bool
  | .Name y _ => decide (y = c.nm) && isGl sc y
  | _ => false
/-- range(a) -/
def rgOf (sc : Scope) : Expr → Option Expr
  | .Call (.Name y _) [pa] [] _ => if y = "range" ∧ isGl sc y ∧ notStar pa then some pa else none
  | _ => none
def intC : Expr → Option Int
  | .Constant (.int i) _ _ => some i
  | .UnaryOp .USub (.Constant (.int i) _ _) _ => some (-i)
  | _ => none
def dictOf : Expr → Option (List (Option Expr) × List Expr)
  | .Dict ks vs _ => some (ks, vs)
  | _ => none
def keyIsC (s : Str) : Option Expr → Bool
  | some (.Constant (.str t) _ _) => decide (s = t)
  | _ => false
def matKV : List (Str × Int) → List (Option Expr) → List Expr → Bool
  | [], [], [] => true
  | (s, i) :: r, k :: ks, v :: vs => keyIsC s k && decide (intC v = some i) && matKV r ks vs
  | _, _, _ => false
def noSC : Expr → Bool
  | .ListComp _ _ _ _ => false
  | .SetComp _ _ _ _ => false
  | .DictComp _ _ _ _ _ => false
  | _ => true
def isM1 : Expr → Bool
  | .UnaryOp .USub (.Constant (.int i) _ _) _ => decide (i = 1)
  | _ => false
mutual
def matE (M : ME) : Scope → E → Expr → Bool
  | _, .bad, p => noSC p
  | sc, .glb i, .Name x _ => M.gi.contains (x, i) && isGl sc x && plainN x
  | sc, .trg t a, .Call (.Name x _) [q] [] _ => decide (x = if t then "tuple" else "list") && isGl sc x && notStar q && (match rgOf sc q with
    | some pa => matE M sc a pa
    | none => false)
  | sc, .isa c a, .Call (.Name x _) [pa, q] [] _ => decide (x = "isinstance") && isGl sc x && notStar pa && notStar q && isTy sc c q && matE M sc a pa
  | sc, .dlg kvs k d, .Call (.Attribute po x ap) [pk, pd] [] cp => decide (x = "get") && (ap.endLine == cp.line) && notStar pk && notStar pd && (match dictOf po with
    | some (ks, vs) => matKV kvs ks vs && decide (0 < ks.length) && decide (ks.length ≤ 15)
    | none => false) && matE M sc k pk && matE M sc d pd
  | sc, .var i, .Name x _ => isAt M.N i x && isVis sc x && plainN x
  | _, .lit c, .Constant k _ _ => matC c k
  | sc, .tup es, .Tuple ps _ _ => matEs M sc es ps && decide (es.len ≤ 10000)
  | sc, .lst es, .List ps _ => matEs M sc es ps && decide (es.len ≤ 10000)
  | sc, .lstM es, .List ps _ => matEs M sc es ps && decide (es.len ≤ 10000)
  | sc, .lsw es, .List ps _ => matEs M sc es ps && decide (es.len ≤ 10000)
  | sc, .bin o a b, .BinOp pa o' pb _ => decide (o = o') && matE M sc a pa && matE M sc b pb
  | sc, .neg a, .UnaryOp .USub pa _ => matE M sc a pa
  | sc, .nt a, .UnaryOp .Not pa _ => matE M sc a pa && notIf pa
  | sc, .cmp o a b, .Compare pa [o'] [pb] _ => decide (o = o') && notSet pb && matE M sc a pa && matE M sc b pb
  | sc, .isN a, .Compare pa [.Is] [.Constant .none _ _] _ => matE M sc a pa
  | sc, .notN a, .Compare pa [.IsNot] [.Constant .none _ _] _ => matE M sc a pa
  | sc, .cmp2 o p a b c, .Compare pa [o', p'] [pb, pc] _ => decide (o = o') && decide (p = p') && notSet pb && notSet pc && matE M sc a pa && matE M sc b pb && matE M sc c pc
  | sc, .one a, .BoolOp _ [pa] _ => matE M sc a pa && notIf pa
  | sc, .and a b, .BoolOp .And (pa :: pb :: ps) pos => matE M sc a pa && notIf pa && matE M sc b (.BoolOp .And (pb :: ps) pos)
  | sc, .or a b, .BoolOp .Or (pa :: pb :: ps) pos => matE M sc a pa && notIf pa && matE M sc b (.BoolOp .Or (pb :: ps) pos)
  | sc, .ife c a b, .IfExp pc pa pb _ => matE M sc c pc && notIf pc && matE M sc a pa && matE M sc b pb
  | sc, .idx a i, .Subscript pa pi _ => notSlice pi && matE M sc a pa && matE M sc i pi
  | sc, .slc a lo hi, .Subscript pa (.Slice pl ph none _) _ => matE M sc a pa && matOe M sc lo pl && matOe M sc hi ph
  | sc, .blt f es, .Call (.Name x _) (p :: ps) [] _ => decide (x = f.nm) && isGl sc x && matEs M sc es (p :: ps)
  | sc, .mth f o es, .Call (.Attribute po x ap) (p :: ps) [] cp => decide (f = .count) && decide (x = f.nm) && notCall0 po && (ap.endLine == cp.line) && decide (ps.length < 20) && matE M sc o po && matEs M sc es (p :: ps)
  | sc, .sset a, .Call (.Name x _) [.Call (.Name y _) [pa] [] _] [] _ => decide (x = "sorted") && decide (y = "set") && isGl sc x && isGl sc y && notStar pa && matE M sc a pa
  | sc, .call f es, .Call (.Name x _) (p :: ps) [] _ => isAt M.fn f x && isGl sc x && plainN x && matEs M sc es (p :: ps)
  | sc, .lc _ t u it c e, .ListComp pe [⟨tg, pi, ifs, a⟩] scope _ => decide (a = 0) && !t.isEmpty && notSet pi && blkC M.N sc scope (ownOf M.N t) && matT M.N (isSto scope) t u tg && matIt M sc it pi && matIfs M (relS scope sc) c ifs && matE M (relS scope sc) e pe
  | _, _, _ => false
def matEs (M : ME) : Scope → Es → List Expr → Bool
  | _, .nil, [] => true
  | sc, .cons e es, p :: ps => notStar p && matE M sc e p && matEs M sc es ps
  | _, _, _ => false
def matOe (M : ME) : Scope → Oe → Option Expr → Bool
  | _, .none, none => true
  | sc, .some e, some p => matE M sc e p
  | _, _, _ => false
def matIfs (M : ME) : Scope → Oe → List Expr → Bool
  | _, .none, [] => true
  | sc, .some e, [p] => matE M sc e p && notIf p
  | _, _, _ => false
def matIt (M : ME) : Scope → It → Expr → Bool
  | sc, .e a, p => matE M sc a p
  | sc, .rg1 a, .Call (.Name x _) [pa] [] _ => decide (x = "range") && isGl sc x && notStar pa && matE M sc a pa
  | sc, .rg2 a b, .Call (.Name x _) [pa, pb] [] _ => decide (x = "range") && isGl sc x && notStar pa && notStar pb && matE M sc a pa && matE M sc b pb
  | sc, .rgd a b, .Call (.Name x _) [pa, pb, pc] [] _ => decide (x = "range") && isM1 pc && isGl sc x && notStar pa && notStar pb && matE M sc a pa && matE M sc b pb
  | _, _, _ => false
end
end Ev

/-! EvE: targets, items, comprehensions. -/
namespace Ev
open PySem PySem.Spec L2

/-! ### slots -/
def sAll : List Nat → List V → L2.St → L2.St
  | i :: is, x :: xs, σ => sAll is xs (σ.set i (some x))
  | _, _, σ => σ
theorem sAll_set {t : List Nat} : ∀ {xs : List V} {σ : L2.St} {i : Nat} {y : Option V}, i ∈ t → xs.length = t.length → sAll t xs (σ.set i y) = sAll t xs σ := by
  induction t with
  | nil => intro xs σ i y h; simp at h
  | cons j js ih =>
    intro xs σ i y h hl
    cases xs with
    | nil => simp at hl
    | cons x xs =>
      simp only [sAll]
      by_cases e : i = j
      · subst e; rw [List.set_set]
      · have hi : i ∈ js := by
          rcases List.mem_cons.mp h with z | z
          · exact absurd z e
          · exact z
        rw [List.set_comm _ _ e]
        exact ih hi (by simpa using hl)
theorem sAll_wipe {t : List Nat} {xs : List V} (hl : xs.length = t.length) : ∀ {vs : List Nat} {σ : L2.St}, (∀ i ∈ vs, i ∈ t) → sAll t xs (wipe σ vs) = sAll t xs σ
  | [], _, _ => rfl
  | v :: vs, σ, h => by
    show sAll t xs ((wipe σ vs).set v none) = _
    rw [sAll_set (h v List.mem_cons_self) hl, sAll_wipe hl fun i hi => h i (List.mem_cons_of_mem _ hi)]
theorem wipe_set {vs : List Nat} : ∀ {σ : L2.St} {i : Nat} {y : Option V}, i ∈ vs → wipe (σ.set i y) vs = wipe σ vs := by
  induction vs with
  | nil => intro σ i y h; simp at h
  | cons v vs ih =>
    intro σ i y h
    show (wipe (σ.set i y) vs).set v none = (wipe σ vs).set v none
    by_cases e : i ∈ vs
    · rw [ih e]
    · have hv : i = v := by
        rcases List.mem_cons.mp h with z | z
        · exact z
        · exact absurd z e
      subst hv
      have comm : ∀ (ws : List Nat) (σ : L2.St), i ∉ ws → wipe (σ.set i y) ws = (wipe σ ws).set i y := by
        intro ws
        induction ws with
        | nil => intro σ _; rfl
        | cons w ws ihw =>
          intro σ hw
          simp only [List.mem_cons, not_or] at hw
          show (wipe (σ.set i y) ws).set w none = ((wipe σ ws).set w none).set i y
          rw [ihw σ hw.2, List.set_comm _ _ hw.1]
      rw [comm vs σ e, List.set_set]
theorem wipe_sAll {vs : List Nat} : ∀ {t : List Nat} {xs : List V} {σ : L2.St}, (∀ i ∈ t, i ∈ vs) → wipe (sAll t xs σ) vs = wipe σ vs
  | [], _, _, _ => by simp only [sAll]
  | _ :: _, [], _, _ => by simp only [sAll]
  | i :: is, x :: xs, σ, h => by
    simp only [sAll]
    rw [wipe_sAll (t := is) fun j hj => h j (List.mem_cons_of_mem _ hj), wipe_set (h i List.mem_cons_self)]
theorem wipe_wipe {vs : List Nat} {σ : L2.St} : wipe (wipe σ vs) vs = wipe σ vs := by
  have : ∀ (us : List Nat) (σ : L2.St), (∀ i ∈ us, i ∈ vs) → wipe (wipe σ us) vs = wipe σ vs := by
    intro us
    induction us with
    | nil => intro σ _; rfl
    | cons u us ih =>
      intro σ h
      show wipe ((wipe σ us).set u none) vs = _
      rw [wipe_set (h u List.mem_cons_self), ih σ fun i hi => h i (List.mem_cons_of_mem _ hi)]
  exact this vs σ fun _ h => h

section
variable {K : PySem.W.Frag} {xr : XRel} {B : List Nat} {Wx : WX} {m : List Addr} {F H : Hp} {env : Vars} {h : Hq} {σ : L2.St}
theorem SR.setv (s : SR K B m F env h σ H) {i : Nat} {w : W} {x : V} (r : WR K m F x w) : SR K B m F (env.set i (some w)) h (σ.set i (some x)) H := by
  refine ⟨s.hr, by simpa using s.el, fun j u e => ?_⟩
  by_cases hj : j = i
  · subst hj
    have hl : j < env.length := by
      have := (List.getElem?_eq_some_iff.mp e).1
      simpa using this
    rw [List.getElem?_set_self hl] at e
    cases e
    exact ⟨x, by rw [List.getElem?_set_self (Nat.lt_of_lt_of_le hl s.el)], r⟩
  · rw [List.getElem?_set_ne (Ne.symm hj)] at e
    obtain ⟨v, e1, r1⟩ := s.var j u e
    exact ⟨v, by rw [List.getElem?_set_ne (Ne.symm hj)]; exact e1, r1⟩
theorem SR.setAll : ∀ {t : List Nat} {ws : List W} {xs : List V} {env : Vars} {σ : L2.St}, SR K B m F env h σ H → WRs K m F xs ws → SR K B m F (Ev.setAll t ws env) h (sAll t xs σ) H
  | [], _, _, _, _, s, _ => by simp only [Ev.setAll, sAll]; exact s
  | _ :: _, [], _, _, _, s, r => by cases r; simp only [Ev.setAll, sAll]; exact s
  | _ :: _, _ :: _, _, _, _, s, r => by
    cases r with
    | cons r1 r2 => simp only [Ev.setAll, sAll]; exact SR.setAll (s.setv r1) r2
end

/-! ### targets -/
def gNames : List Nat → TGs
  | [] => gNil
  | i :: is => gCons (gName i) (gNames is)
def gT (K : PySem.W.Frag) (t : List Nat) (u : Bool) : TG := match u, t with
  | false, i :: _ => gName i
  | false, [] => fun _ _ _ _ => False
  | true, t => gTup K t.length (gNames t)
theorem gNames_ok {t : List Nat} : ∀ {xs : List V} {σ : L2.St} {H : Hp} {Q : L2.St → Hp → Prop}, xs.length = t.length → Q (sAll t xs σ) H → gNames t xs σ H Q := by
  induction t with
  | nil =>
    intro xs σ H Q hl q
    cases xs with
    | nil => exact ⟨rfl, q⟩
    | cons _ _ => simp at hl
  | cons i is ih =>
    intro xs σ H Q hl q
    cases xs with
    | nil => simp at hl
    | cons x xs => exact ⟨x, xs, rfl, ih (by simpa using hl) q⟩
section
variable {K : PySem.W.Frag} {xr : XRel} {B : List Nat} {Wx : WX} {m : List Addr} {F H : Hp} {env env' : Vars} {h : Hq} {σ : L2.St}
/-- a turn's item comes to its slots; vs: slots that are forgotten ahead -/
theorem bind_ok' {t : List Nat} {u : Bool} {w : W} {x : V} {vs : List Nat} {Q : L2.St → Hp → Prop} (e : bindT t u w env = some env') (r : WR K m F x w) (s : SR K B m F env h σ H) (hv : ∀ i ∈ vs, i ∈ t) (hv' : vs = [] ∨ ∀ i ∈ t, i ∈ vs)
    (q : ∀ σ2, SR K B m F env' h σ2 H → (vs ≠ [] → wipe σ2 vs = wipe σ vs) → Q σ2 H) : gT K t u x (wipe σ vs) H Q := by
  have done : ∀ {xs : List V} {t : List Nat}, xs.length = t.length → (∀ i ∈ vs, i ∈ t) → (vs = [] ∨ ∀ i ∈ t, i ∈ vs) → SR K B m F env' h (sAll t xs σ) H → Q (sAll t xs (wipe σ vs)) H := fun {xs t} hl h1 h2 s' => by
    rw [sAll_wipe hl h1]
    refine q _ s' fun hne => ?_
    rcases h2 with h2 | h2
    · exact absurd h2 hne
    · exact wipe_sAll h2
  unfold bindT at e
  split at e
  · split at e
    · rename_i i
      cases e
      exact done (xs := [x]) (t := [i]) rfl hv hv' (s.setv r)
    · cases e
  · split at e
    · rename_i xs
      split at e
      · rename_i hl
        cases e
        obtain ⟨a, us, rfl, sq, d⟩ : ∃ a us, x = .ref a ∧ SqT K F a us ∧ DpAll K F us xs := by
          have r : Dp K F x (.tuple xs) := r
          cases r with
          | tup h1 h2 => exact ⟨_, _, rfl, h1, h2⟩
        have hl' : us.length = t.length := by rw [d.length]; exact hl
        exact ⟨a, us, rfl, s.hr.sub.sqt sq, hl', gNames_ok hl' (done hl' hv hv' (SR.setAll s (WRs.ofD d)))⟩
      · cases e
    · cases e
end
section
variable {X : Cx}
theorem assign1 {p : Expr} {ps : List Expr} {env : Env} (h : notStar p = true) : assignEach (p :: ps) env = (false, assign p env) :: assignEach ps env := by
  cases p <;> first | rfl | (simp [notStar] at h)
theorem pgs_names {N : List Str} {sto : Str → Bool} (hN : X.N = N) (nd : X.N.Nodup) (hst : ∀ x, sto x = true → Loc X.env.scope x ∧ (X.fn x = true ∨ X.env.scope.names.lookup x = some .local)) :
    ∀ {t : List Nat} {ps : List Expr}, matTs N sto t ps = true → PGs X ps (gNames t) ∧ (assignEach ps X.env).length = t.length ∧ (assignEach ps X.env).findIdx? (·.1) = none := by
  intro t
  induction t with
  | nil =>
    intro ps h
    cases ps with
    | nil => exact ⟨pgs_nil, rfl, rfl⟩
    | cons p ps => simp [matTs] at h
  | cons i is ih =>
    intro ps h
    cases ps with
    | nil => simp [matTs] at h
    | cons p ps =>
      cases p <;> simp only [matTs, Bool.false_eq_true] at h
      case Name x pos =>
        simp only [Bool.and_eq_true, isAt, decide_eq_true_eq] at h
        obtain ⟨⟨h1, h2⟩, h3⟩ := h
        obtain ⟨a, b, c⟩ := ih h3
        obtain ⟨l, f⟩ := hst x h2
        refine ⟨pgs_cons (pg_name nd (by rw [hN]; exact h1) l f) a rfl, ?_, ?_⟩
        · show ((false, assign (.Name x pos) X.env) :: assignEach ps X.env).length = _
          rw [List.length_cons, b]; rfl
        · show ((false, assign (.Name x pos) X.env) :: assignEach ps X.env).findIdx? (·.1) = none
          rw [List.findIdx?_cons]
          simp [c]
theorem pg_T {N : List Str} {sto : Str → Bool} (hc : X.calm = true) (hN : X.N = N) (nd : X.N.Nodup) (hst : ∀ x, sto x = true → Loc X.env.scope x ∧ (X.fn x = true ∨ X.env.scope.names.lookup x = some .local)) {t : List Nat} {u : Bool} {tg : Expr}
    (h : matT N sto t u tg = true) : PG X tg (gT X.K t u) := by
  unfold matT at h
  split at h
  · rename_i i x pos
    simp only [Bool.and_eq_true, isAt, decide_eq_true_eq] at h
    obtain ⟨l, f⟩ := hst x h.2
    exact pg_name nd (by rw [hN]; exact h.1) l f
  · rename_i ps k pos
    obtain ⟨a, b, c⟩ := pgs_names hN nd hst h
    exact pg_tup hc a b c
  · cases h
end

/-! ### what is walked -/
/-- an iterator over just these items, whatever comes -/
def ItOk (K : PySem.W.Frag) (m : List Addr) (F : Hp) (J : L2.It) (ws : List W) : Prop := ∀ i H, HpLe F H →
  (∀ w, ws[i]? = some w → J.go i H ∧ ∀ x H', J.yld i H x H' → H' = H ∧ WR K m F x w) ∧ (ws.length ≤ i → J.stop i H)
def tI (K : PySem.W.Frag) (xr : XRel) (B : List Nat) (Wx : WX) (f : Vars → Hq → R (List W)) : TI := fun σ H G => ∃ m F env h, SR K B m F env h σ H ∧
  PostG K xr B Wx m F env σ H (f env h) (fun ws h' m' F' H' => ∀ J, ItOk K m' F' J ws → ws.length ≤ sizeLine → G J H')
section
variable {K : PySem.W.Frag} {m : List Addr} {F : Hp}
theorem it_list {a : Addr} {vs : List V} {ds : List PyData} (s : SqL K F a vs) (d : DpAll K F vs ds) : ItOk K m F (Itl K a) (ds.map .d) := by
  intro i H le
  refine ⟨fun w e => ?_, fun hl => ⟨vs, le.sql s, by rw [d.length]; simpa using hl⟩⟩
  rw [List.getElem?_map] at e
  obtain ⟨x, ex, rfl⟩ := Option.map_eq_some_iff.mp e
  obtain ⟨v, ev, rv⟩ := d.get ex
  refine ⟨⟨vs, v, le.sql s, ev⟩, fun y H' hy => ?_⟩
  obtain ⟨e1, e2⟩ := hy
  have := e2 vs (le.sql s)
  rw [ev] at this
  cases this
  exact ⟨e1, rv⟩
theorem it_tup {a : Addr} {vs : List V} {ds : List PyData} (s : SqT K F a vs) (d : DpAll K F vs ds) : ItOk K m F (Itt K a) (ds.map .d) := by
  intro i H le
  refine ⟨fun w e => ?_, fun hl => ⟨vs, le.sqt s, by rw [d.length]; simpa using hl⟩⟩
  rw [List.getElem?_map] at e
  obtain ⟨x, ex, rfl⟩ := Option.map_eq_some_iff.mp e
  obtain ⟨v, ev, rv⟩ := d.get ex
  refine ⟨⟨vs, v, le.sqt s, ev⟩, fun y H' hy => ?_⟩
  obtain ⟨e1, e2⟩ := hy
  have := e2 vs (le.sqt s)
  rw [ev] at this
  cases this
  exact ⟨e1, rv⟩
theorem it_up {lo hi : Int} : ItOk K m F (Itr lo (hi - lo).toNat) (rangeUp lo hi) := by
  intro i H _
  refine ⟨fun w e => ?_, fun hl => by rw [rangeUp, List.length_map, List.length_range] at hl; exact hl⟩
  unfold rangeUp at e
  rw [List.getElem?_map] at e
  obtain ⟨x, ex, rfl⟩ := Option.map_eq_some_iff.mp e
  obtain ⟨hx, ex⟩ := List.getElem?_eq_some_iff.mp ex
  rw [List.length_range] at hx
  rw [List.getElem_range] at ex
  subst ex
  refine ⟨hx, fun y H' hy => ?_⟩
  obtain ⟨e1, e2⟩ := hy
  subst e2
  exact ⟨e1, .int _⟩
theorem it_dn {hi lo : Int} : ItOk K m F (Itc hi (-1) (hi - lo).toNat) (rangeDn hi lo) := by
  intro i H _
  refine ⟨fun w e => ?_, fun hl => by rw [rangeDn, List.length_map, List.length_range] at hl; exact hl⟩
  unfold rangeDn at e
  rw [List.getElem?_map] at e
  obtain ⟨x, ex, rfl⟩ := Option.map_eq_some_iff.mp e
  obtain ⟨hx, ex⟩ := List.getElem?_eq_some_iff.mp ex
  rw [List.length_range] at hx
  rw [List.getElem_range] at ex
  subst ex
  refine ⟨hx, fun y H' hy => ?_⟩
  obtain ⟨e1, e2⟩ := hy
  subst e2
  refine ⟨e1, ?_⟩
  rw [show hi + (i : Int) * -1 = hi - i by omega]
  exact .int _
end
def iSeq (K : PySem.W.Frag) (tl : TE) : TI := fun σ H G => tl σ H fun x H1 => ∃ a, x = .ref a ∧ (((∃ xs, SqL K H1 a xs) ∧ ((∀ xs, SqL K H1 a xs → xs.length ≤ sizeLine) → G (Itl K a) H1)) ∨ ((∃ xs, SqT K H1 a xs) ∧ ((∀ xs, SqT K H1 a xs → xs.length ≤ sizeLine) → G (Itt K a) H1)))
theorem pi_seq {X : Cx} {tg l : Expr} {tl : TE} (hl : PE X l tl) : PI X tg l (iSeq X.K tl) := by
  refine ⟨fun pins s σ H G I h => ?_⟩
  refine thn (hl.run pins s σ H _ I h) fun v s1 ⟨x, H1, I1, r1, q1⟩ => ?_
  obtain ⟨a, e, q⟩ := q1
  subst e
  cases r1
  rcases q with ⟨⟨xs, hq⟩, q⟩ | ⟨⟨xs, hq⟩, q⟩
  · obtain ⟨its, rv, p, hz⟩ := I1.list hq
    refine wpAny_pyIter_list p.isList ?_
    refine ⟨s1.heap.objs.size, [s1.heap.objs.size], _, _, H1, rfl, I1.kept (t' := s1.toks) fun b o e => Heap.get?_push_of_some _ e, turn_list a _, ⟨_, Heap.get?_push_size _ rfl, rfl, rfl⟩, fun b hb => ?_, q fun ys hy => (I1.list hy).elim fun _ z => z.2.2⟩
    have e : b = s1.heap.objs.size := by simpa using hb
    subst e
    exact I1.fpOk (Nat.le_refl _) (I1.hok.fresh (Nat.le_refl _))
  · obtain ⟨its, rv, p, hz⟩ := I1.tuple hq
    refine wpAny_pyIter_tuple (show s1.heap.IsTuple a its.toArray from p) ?_
    refine ⟨s1.heap.objs.size, [s1.heap.objs.size], _, _, H1, rfl, I1.kept (t' := s1.toks) fun b o e => Heap.get?_push_of_some _ e, turn_tuple a _, ⟨_, Heap.get?_push_size _ rfl, rfl, rfl⟩, fun b hb => ?_, q fun ys hy => (I1.tuple hy).elim fun _ z => z.2.2⟩
    have e : b = s1.heap.objs.size := by simpa using hb
    subst e
    exact I1.fpOk (Nat.le_refl _) (I1.hok.fresh (Nat.le_refl _))
end Ev
namespace L2
open PySem PySem.Spec
theorem PI.weak {X : Cx} {tg it : Expr} {t t' : TI} (h : PI X tg it t) (i : ∀ σ H G, t' σ H G → t σ H G) : PI X tg it t' := ⟨fun pins s σ H G I q => h.run pins s σ H G I (i σ H G q)⟩
theorem PE.weak {X : Cx} {e : Expr} {t t' : TE} (h : PE X e t) (i : ∀ σ H Q, t' σ H Q → t σ H Q) : PE X e t' := ⟨fun pins s σ H Q I q => h.run pins s σ H Q I (i σ H Q q)⟩
theorem PT.weak {X : Cx} {e : Expr} {t t' : TT} (h : PT X e t) (i : ∀ σ H Q, t' σ H Q → t σ H Q) : PT X e t' := ⟨fun pins s σ H Q I q => h.run pins s σ H Q I (i σ H Q q)⟩
theorem PW.weak {X : Cx} {e : Expr} {t t' : TT} (h : PW X e t) (i : ∀ σ H Q, t' σ H Q → t σ H Q) : PW X e t' := ⟨fun w pins s σ H Q I q => h.run w pins s σ H Q I (i σ H Q q)⟩
theorem PS.weak {X : Cx} {e : Stmt} {t t' : TS} (h : PS X e t) (i : ∀ D σ H, t' D σ H → t D σ H) : PS X e t' := ⟨fun pins s σ H D I q => h.run pins s σ H D I (i D σ H q)⟩
theorem PSs.weak {X : Cx} {e : List Stmt} {t t' : TS} (h : PSs X e t) (i : ∀ D σ H, t' D σ H → t D σ H) : PSs X e t' := ⟨fun pins s σ H D I q => h.run pins s σ H D I (i D σ H q)⟩
theorem PTs.weak {X : Cx} {e : List Expr} {t t' : TT} (h : PTs X e t) (i : ∀ σ H Q, t' σ H Q → t σ H Q) : PTs X e t' := ⟨fun pins s σ H Q I q => h.run pins s σ H Q I (i σ H Q q)⟩
theorem PA.weak {X : Cx} {e : List Expr} {t t' : TA} (h : PA X e t) (i : ∀ σ H Q, t' σ H Q → t σ H Q) : PA X e t' := ⟨fun pos pins s σ H Q I q => h.run pos pins s σ H Q I (i σ H Q q)⟩
end L2

/-! EvF: comprehensions, by the list that they make. -/
namespace Ev
open PySem PySem.Spec L2

abbrev WF : WX := fun _ _ _ _ => False
def lcF (fc : Vars → Hq → R (Option W)) (fe : Vars → Hq → R W) (t : List Nat) (u : Bool) (env : Vars) : W → Hq → R (Option W) := fun w h => match bindT t u w env with
  | some env => (fc env h).bind fun q h => match boolO q with
    | some true => (fe env h).bind fun r h => .ok (some r) h
    | some false => .ok none h
    | none => .bad
  | none => .bad
def tO (K : PySem.W.Frag) (xr : XRel) (B : List Nat) (Wx : WX) (fc : Vars → Hq → R (Option W)) : TT := fun σ H Q => ∃ m F env h, SR K B m F env h σ H ∧ PostG K xr B Wx m F env σ H (fc env h) (fun q _ _ _ H' => ∃ k, boolO q = some k ∧ Q k H')

theorem lcF_ok {fc : Vars → Hq → R (Option W)} {fe : Vars → Hq → R W} {t : List Nat} {u : Bool} {env : Vars} {w : W} {h h' : Hq} {o : Option W} (e : lcF fc fe t u env w h = .ok o h') :
    ∃ env2 q h1, bindT t u w env = some env2 ∧ fc env2 h = .ok q h1 ∧ ((∃ r, boolO q = some true ∧ fe env2 h1 = .ok r h' ∧ o = some r) ∨ (boolO q = some false ∧ o = none ∧ h' = h1)) := by
  unfold lcF at e
  split at e
  · rename_i env2 hb
    cases hc : fc env2 h with
    | ok q h1 =>
      rw [hc] at e
      simp only [R.bind] at e
      refine ⟨env2, q, h1, hb, hc, ?_⟩
      split at e
      · rename_i hq
        cases he : fe env2 h1 with
        | ok r h2 =>
          rw [he] at e
          simp only [R.bind, R.ok.injEq] at e
          exact .inl ⟨r, hq, by rw [e.2], e.1.symm⟩
        | ex _ _ _ => rw [he] at e; simp [R.bind] at e
        | bad => rw [he] at e; simp [R.bind] at e
      · rename_i hq
        simp only [R.ok.injEq] at e
        exact .inr ⟨hq, e.1.symm, e.2.symm⟩
      · cases e
    | ex _ _ _ => rw [hc] at e; simp [R.bind] at e
    | bad => rw [hc] at e; simp [R.bind] at e
  · cases e
theorem lcGo_cons {f : W → Hq → R (Option W)} {w : W} {ws rs : List W} {h hz : Hq} (e : lcGo f (w :: ws) h = .ok rs hz) : ∃ o h' rs', f w h = .ok o h' ∧ lcGo f ws h' = .ok rs' hz ∧ rs = o.toList ++ rs' := by
  unfold lcGo at e
  cases hf : f w h with
  | ok o h' =>
    rw [hf] at e
    simp only [R.bind] at e
    cases hg : lcGo f ws h' with
    | ok rs' h2 =>
      rw [hg] at e
      simp only at e
      cases o with
      | some r => simp only [R.ok.injEq] at e; exact ⟨some r, h', rs', rfl, by rw [hg, e.2], e.1.symm⟩
      | none => simp only [R.ok.injEq] at e; exact ⟨none, h', rs', rfl, by rw [hg, e.2], e.1.symm⟩
    | ex _ _ _ => rw [hg] at e; simp at e
    | bad => rw [hg] at e; simp at e
  | ex _ _ _ => rw [hf] at e; simp [R.bind] at e
  | bad => rw [hf] at e; simp [R.bind] at e

section
variable {K : PySem.W.Frag} {xr : XRel} {B : List Nat} {Wx : WX} {m m1 : List Addr} {F F1 H H1 : Hp} {env : Vars} {h : Hq} {σ : L2.St} {Q : VK} {D : Addr}
theorem HR.adopt (r : HR K B m F h H) {u : HO} (fp : F D = none) (mp : D ∉ m) (e : H D = some u) : HR K B m (upd F D u) h H := by
  refine ⟨r.len, r.nd, fun n o a eo ea => ?_, fun b o eb => ?_, r.there, r.clo⟩
  · have hap : a ≠ D := fun z => mp (z ▸ List.mem_of_getElem? ea)
    exact or_mono (.refl _) (.upd fp) (fun f => by rw [upd_ne hap]; exact f) (fun u e _ => e) (r.ob n o a eo ea)
  · by_cases hb : b = D
    · subst hb; rw [upd_same] at eb; cases eb; exact e
    · rw [upd_ne hb] at eb; exact r.sub b o eb
theorem HR.adoptL (r : HR K B m F h H) {o : Ob} (fp : F D = none) (mp : D ∉ m) (hD : H D ≠ none) (ho : OR K (m ++ [D]) F H D o) : HR K B (m ++ [D]) F (h ++ [o]) H := by
  have ml : MLe m (m ++ [D]) := ⟨[D], rfl⟩
  refine ⟨by simp [r.len], ?_, fun n q a e ea => ?_, r.sub, fun b hb => ?_, fun c hc => ?_⟩
  · rw [List.nodup_append]
    refine ⟨r.nd, by simp, fun a ha b hb => ?_⟩
    have : b = D := by simpa using hb
    subst this
    exact fun z => mp (z ▸ ha)
  · rcases getElem?_snoc e with ⟨hn, e⟩ | ⟨hn, rfl⟩
    · rw [List.getElem?_append_left (by rw [r.len]; exact hn)] at ea
      exact or_mono ml (.refl _) id (fun u e _ => e) (r.ob n q a e ea)
    · rw [hn, ← r.len] at ea
      simp at ea
      subst ea; exact ho
  · rcases List.mem_append.mp hb with hb | hb
    · exact r.there b hb
    · have : b = D := by simpa using hb
      subst this; exact hD
  · obtain ⟨h1, h2⟩ := r.clo c hc
    refine ⟨by simp; omega, fun n q k hn e hk => ?_⟩
    rw [List.getElem?_append_left (by omega)] at e
    exact h2 n q k hn e hk
/-- the list that a comprehension made -/
theorem lc_end {k : Nat} {rs : List W} {acc : List V} (p : PostG K xr B Wx m1 F1 env σ H1 (lcEnd k rs h) (PV K Q)) (x : Ext m1 F1 H1 m F H) (hD1 : H1 D = none) (s : SR K B m F env h σ H) (fp : F D = none) (mp : D ∉ m) (e : H D = some (.lst acc))
    (r : WRs K m F acc rs) : Q (.ref D) H := by
  have le : HpLe F (upd F D (.lst acc)) := .upd fp
  have frz : ∀ {ds : List PyData}, allD rs = some ds → PostG K xr B Wx m1 F1 env σ H1 (.ok (.d (.list ds)) h) (PV K Q) → Q (.ref D) H := fun {ds} ha p => by
    have x' : Ext m1 F1 H1 m (upd F D (.lst acc)) H := ⟨x.ml, x.sub.trans le, x.frm, x.new, fun a ha hf hh => by
      rw [upd_ne (show a ≠ D from fun z => hh (z ▸ hD1))]; exact x.frf a ha hf hh⟩
    refine p _ _ _ x' ⟨s.hr.adopt fp mp e, s.el, fun i w q => ?_⟩ _ (.lst sq_new (dps_mono le _ _ (r.toD ha)))
    obtain ⟨v, h1, h2⟩ := s.var i w q
    exact ⟨v, h1, wr_mono (.refl _) le h2⟩
  have mk : ∀ {o : Ob}, OR K (m ++ [D]) F H D o → PostG K xr B Wx m1 F1 env σ H1 (.ok (.l h.length) (h ++ [o])) (PV K Q) → Q (.ref D) H := fun {o} ho p => by
    have ml : MLe m (m ++ [D]) := ⟨[D], rfl⟩
    have x' : Ext m1 F1 H1 (m ++ [D]) F H := ⟨x.ml.trans ml, x.sub, x.frm, fun a ha hn => by
      rcases List.mem_append.mp ha with ha | ha
      · exact x.new a ha hn
      · have : a = D := by simpa using ha
        subst this; exact hD1, x.frf⟩
    refine p _ _ _ x' ⟨s.hr.adoptL fp mp (by rw [e]; simp) ho, s.el, fun i w q => ?_⟩ _ ⟨D, by rw [← s.hr.len]; simp, rfl⟩
    obtain ⟨v, h1, h2⟩ := s.var i w q
    exact ⟨v, h1, wr_mono ml (.refl _) h2⟩
  unfold lcEnd at p
  split at p
  · split at p
    · rename_i ds ha
      exact frz ha p
    · exact p.elim
  · split at p
    · rename_i ds ha
      exact mk (o := .lst ds) ⟨fp, acc, e, r.toD ha⟩ p
    · exact p.elim
  · exact mk (o := .lsw rs) ⟨fp, acc, e, wrs_mono ⟨[D], rfl⟩ (.refl _) r⟩ p

theorem SR.other (s : SR K B m F env h σ H) {u : HO} (fp : F D = none) (mp : D ∉ m) : SR K B m F env h σ (upd H D u) := ⟨s.hr.other fp mp, s.el, s.var⟩

/-- THE READING of a comprehension -/
theorem lc_read {fit : Vars → Hq → R (List W)} {fc : Vars → Hq → R (Option W)} {fe : Vars → Hq → R W} {k : Nat} {t : List Nat} {u : Bool} (ht : t ≠ [])
    (p : tE K xr B Wx (fun env h => (fit env h).bind fun ws h => (noEx (lcGo (lcF fc fe t u env) ws h)).bind fun rs h => lcEnd k rs h) σ H Q) :
    tLc (tI K xr B Wx fit) (gT K t u) (tO K xr B WF fc) (tE K xr B WF fe) t σ H Q := by
  obtain ⟨m0, F0, env, h0, S0, p⟩ := p
  refine ⟨m0, F0, env, h0, S0, p.bind.mono fun ws h1 m1 F1 H1 x1 S1 p J hJ hwl D hD => ?_⟩
  -- the whole loop ends
  cases hgo : lcGo (lcF fc fe t u env) ws h1 with
  | ex c ds hx => rw [hgo] at p; exact p.elim
  | bad => rw [hgo] at p; exact p.elim
  | ok rest hz =>
  rw [hgo] at p
  have p : PostG K xr B Wx m1 F1 env σ H1 (lcEnd k rest hz) (PV K Q) := p
  have fD1 := S1.hr.freeF hD
  have mD1 := S1.hr.freeM hD
  refine ⟨fun i j H => j = ws.length - i ∧ i ≤ ws.length ∧ ∃ m F h acc rs rs', Ext m1 F1 H1 m F H ∧ SR K B m F env h σ H ∧ F D = none ∧ D ∉ m ∧ H D = some (.lst acc) ∧ WRs K m F acc rs ∧ acc.length ≤ i ∧
    lcGo (lcF fc fe t u env) (ws.drop i) h = .ok rs' hz ∧ rest = rs ++ rs', ⟨ws.length, by simp, Nat.zero_le _, m1, F1, h1, [], [], rest, ?_, S1.other fD1 mD1, fD1, mD1, upd_same, .nil, Nat.le_refl _, hgo, rfl⟩, ?_⟩
  · exact ⟨.refl _, .refl _, fun a o e _ => by rw [upd_ne (ne_of_none e hD)]; exact e, fun _ a b => absurd a b, fun _ _ f _ => f⟩
  rintro i j H ⟨rfl, hi, m, F, h, acc, rs, rs', x, S, fD, mD, eD, r, hacc, hg, er⟩
  obtain ⟨it1, it2⟩ := hJ i H (x.sub.trans S.hr.sub)
  by_cases hlt : i < ws.length
  · have ed : ws.drop i = ws[i] :: ws.drop (i + 1) := List.drop_eq_getElem_cons hlt
    rw [ed] at hg
    obtain ⟨o, h', rs2, hf, hg2, ers⟩ := lcGo_cons hg
    obtain ⟨env2, q, hq1, hb, hc, alt⟩ := lcF_ok hf
    obtain ⟨go, yl⟩ := it1 ws[i] (by simp [hlt])
    refine .inr ⟨go, fun H' => ∃ j', j' < ws.length - i ∧ j' = ws.length - (i + 1) ∧ i + 1 ≤ ws.length ∧ ∃ m F h acc rs rs', Ext m1 F1 H1 m F H' ∧ SR K B m F env h σ H' ∧ F D = none ∧ D ∉ m ∧ H' D = some (.lst acc) ∧ WRs K m F acc rs ∧ acc.length ≤ i + 1 ∧
      lcGo (lcF fc fe t u env) (ws.drop (i + 1)) h = .ok rs' hz ∧ rest = rs ++ rs', fun H' n => ?_, fun y H' hy => ?_⟩
    · obtain ⟨j', a, b, c, d⟩ := n
      exact ⟨j', a, b, c, d⟩
    obtain ⟨eH, ry⟩ := yl y H' hy
    subst eH
    -- the target
    refine bind_ok' (K := K) (B := B) (m := m) (F := F) (h := h) (env := env) (vs := t) hb (wr_mono x.ml x.sub ry) S (fun _ z => z) (.inr fun _ z => z) fun σ2 S2 hw => ⟨hw ht, ?_⟩
    -- the test
    refine ⟨m, F, env2, h, S2, ?_⟩
    show PostG K xr B WF m F env2 σ2 H' (fc env2 h) _
    rw [hc]
    intro m3 F3 H3 x3 S3
    have HD : H' D ≠ none := by rw [eD]; simp
    have nD : ∀ {m4 : List Addr} {F4 H4 : Hp}, Ext m F H' m4 F4 H4 → F4 D = none ∧ D ∉ m4 ∧ H4 D = some (.lst acc) := fun {m4 F4 H4} x4 =>
      ⟨x4.frf D mD fD HD, fun z => HD (x4.new D z mD), x4.frm D _ eD mD⟩
    have back : ∀ {m4 : List Addr} {F4 H4 : Hp} {h4 : Hq}, Ext m F H' m4 F4 H4 → SR K B m4 F4 env2 h4 σ2 H4 → SR K B m4 F4 env h4 σ H4 := fun {m4 F4 H4 h4} x4 S4 => S.ext S4.hr x4
    rcases alt with ⟨y, hk, hee, rfl⟩ | ⟨hk, rfl, rfl⟩
    · refine ⟨true, hk, iteT ⟨m3, F3, env2, hq1, S3, ?_⟩⟩
      show PostG K xr B WF m3 F3 env2 σ2 H3 (fe env2 hq1) _
      rw [hee]
      intro m4 F4 H4 x4 S4 z rz
      have x34 := x3.trans x4
      obtain ⟨f4, n4, e4⟩ := nD x34
      have S5 := back x34 S4
      refine ⟨acc, e4, by omega, ws.length - (i + 1), by omega, rfl, hlt, m4, F4, h', acc ++ [z], rs ++ [y], rs2, ?_, S5.other f4 n4, f4, n4, upd_same, (wrs_mono x34.ml x34.sub r).app (.cons rz .nil), by simp; omega, hg2, ?_⟩
      · have x5 := x.trans x34
        refine ⟨x5.ml, x5.sub, fun a o e hn => ?_, x5.new, x5.frf⟩
        rw [upd_ne (ne_of_none e hD)]; exact x5.frm a o e hn
      · rw [er, ers]; simp
    · obtain ⟨f4, n4, e4⟩ := nD x3
      refine ⟨false, hk, iteF ⟨ws.length - (i + 1), by omega, rfl, hlt, m3, F3, h', acc, rs, rs2, x.trans x3, back x3 S3, f4, n4, e4, wrs_mono x3.ml x3.sub r, by omega, hg2, by rw [er, ers]; simp⟩⟩
  · have ei : i = ws.length := by omega
    subst ei
    rw [List.drop_length] at hg
    simp only [lcGo, R.ok.injEq] at hg
    obtain ⟨rfl, rfl⟩ := hg
    rw [er, List.append_nil] at p
    exact .inl ⟨it2 (Nat.le_refl _), lc_end p x hD S fD mD eD r⟩
end
end Ev

/-! EvG: subscripts, slices, built-in functions and methods, calls. -/
namespace Ev
open PySem PySem.Spec L2

section
variable {X : Cx} {xr : XRel} {B : List Nat} {Wx : WX}
theorem atZ_get {xs : List PyData} {vs : List V} {F : Hp} {k : Int} {d : PyData} (h : DpAll X.K F vs xs) (e : atZ xs k = some d) : ∃ v, L2.atI vs k = some v ∧ Dp X.K F v d := by
  unfold atZ L2.atI at e
  unfold L2.atI
  rw [h.length]
  cases hi : L2.ixN xs.length k with
  | none => rw [hi] at e; cases e
  | some j =>
    rw [hi] at e
    obtain ⟨v, h1, h2⟩ := h.get (show xs[j]? = some d from e)
    exact ⟨v, h1, h2⟩
theorem atZ_getW {ws : List W} {vs : List V} {m : List Addr} {F : Hp} {k : Int} {w : W} (h : WRs X.K m F vs ws) (e : atZ ws k = some w) : ∃ v, L2.atI vs k = some v ∧ WR X.K m F v w := by
  unfold atZ L2.atI at e
  unfold L2.atI
  rw [h.length]
  cases hi : L2.ixN ws.length k with
  | none => rw [hi] at e; cases e
  | some j =>
    rw [hi] at e
    obtain ⟨v, h1, h2⟩ := h.get (show ws[j]? = some w from e)
    exact ⟨v, h1, h2⟩
theorem liftO_cases {m : List Addr} {F H : Hp} {env : Vars} {h : Hq} {σ : L2.St} {Q : VK} {o : Option PyData} (p : PostE X.K xr B Wx m F env σ H (liftO o h) Q) : ∃ d, o = some d ∧ PostE X.K xr B Wx m F env σ H (.ok (.d d) h) Q := by
  cases o with
  | none => exact p.elim
  | some d => exact ⟨d, rfl, p⟩
theorem ix_E (hc : True) : IxR X (rOp X.K xr B Wx (fun a i h => evIdx h a i)) := by
  intro value slice pins s σ H x y v u Q I rx ry hq hs
  obtain ⟨m, F, env, h, σ', w1, w2, S, r1, r2, p⟩ := hq
  have int : ∀ {k : Int}, w2 = .d (.int k) → y = .int k := fun {k} e => by
    subst e
    have r2 : Dp X.K F y (.int k) := r2
    cases r2; rfl
  simp only [evIdx] at p
  split at p
  · rename_i xs k
    cases int rfl
    obtain ⟨d, e, p⟩ := liftO_cases p
    obtain ⟨a, vs, rfl, sq, dd⟩ : ∃ a vs, x = .ref a ∧ SqL X.K F a vs ∧ DpAll X.K F vs xs := by
      have r1 : Dp X.K F x (.list xs) := r1
      cases r1 with
      | lst h1 h2 => exact ⟨_, _, rfl, h1, h2⟩
    obtain ⟨z, hz, rz⟩ := atZ_get dd e
    exact ix_list value slice pins s σ H _ _ v u Q I rx ry ⟨a, vs, k, z, rfl, rfl, S.hr.sub.sql sq, hz, PostE.now p S rz⟩ hs
  · rename_i xs k
    cases int rfl
    obtain ⟨d, e, p⟩ := liftO_cases p
    obtain ⟨a, vs, rfl, sq, dd⟩ : ∃ a vs, x = .ref a ∧ SqT X.K F a vs ∧ DpAll X.K F vs xs := by
      have r1 : Dp X.K F x (.tuple xs) := r1
      cases r1 with
      | tup h1 h2 => exact ⟨_, _, rfl, h1, h2⟩
    obtain ⟨z, hz, rz⟩ := atZ_get dd e
    exact ix_tup value slice pins s σ H _ _ v u Q I rx ry ⟨a, vs, k, z, rfl, rfl, S.hr.sub.sqt sq, hz, PostE.now p S rz⟩ hs
  · rename_i z k
    cases int rfl
    obtain rfl : x = .str z := by
      have r1 : Dp X.K F x (.str z) := r1
      cases r1; rfl
    split at p
    · rename_i hl
      split at p
      · rename_i c e
        exact ix_str value slice pins s σ H _ _ v u Q I rx ry ⟨z, k, c, rfl, rfl, by rw [← sz_eq]; exact hl, e, PostE.now p S (.str _)⟩ hs
      · exact p.elim
    · exact p.elim
  · rename_i n k
    cases int rfl
    obtain ⟨a, em, rfl⟩ := r1
    split at p
    · rename_i xs eo
      obtain ⟨f, vs, eH, dd⟩ := S.hr.ob n _ a eo em
      obtain ⟨d, e, p⟩ := liftO_cases p
      obtain ⟨z, hz, rz⟩ := atZ_get dd e
      exact ix_list value slice pins s σ H _ _ v u Q I rx ry ⟨a, vs, k, z, rfl, rfl, .of eH, hz, PostE.now p S rz⟩ hs
    · rename_i ws eo
      obtain ⟨f, vs, eH, dd⟩ := S.hr.ob n _ a eo em
      split at p
      · rename_i w e
        obtain ⟨z, hz, rz⟩ := atZ_getW dd e
        exact ix_list value slice pins s σ H _ _ v u Q I rx ry ⟨a, vs, k, z, rfl, rfl, .of eH, hz, PostE.now p S rz⟩ hs
      · exact p.elim
    · exact p.elim
  · exact p.elim

theorem cut_len {α : Type} (xs : List α) (lo hi : Option Int) : (cutL xs lo hi).length ≤ xs.length := by
  unfold cutL; rw [List.length_take, List.length_drop]; omega
theorem cut_dp {F : Hp} {vs : List V} {ds : List PyData} (h : DpAll X.K F vs ds) (lo hi : Option Int) : DpAll X.K F (cutV vs lo hi) (cutL ds lo hi) := by
  unfold cutV cutL
  rw [h.length]
  exact (h.drop _).take _
theorem cut_all {α : Type} {xs : List α} {lo hi : Option Int} (h1 : HT.sIx xs.length 0 lo = 0) (h2 : HT.sIx xs.length xs.length hi = xs.length) : cutL xs lo hi = xs := by
  unfold cutL
  rw [h1, h2]
  simp
/-- the reading of a slice -/
def rSlE (K : PySem.W.Frag) (xr : XRel) (B : List Nat) (Wx : WX) : V → Option Int → Option Int → Hp → VK → Prop := fun x lo hi H Q => ∃ m F env h σ w, SR K B m F env h σ H ∧ WR K m F x w ∧
  PostE K xr B Wx m F env σ H (evSlc h w lo hi) Q
theorem sl_E : SlR X (rSlE X.K xr B Wx) := by
  intro pins s σ H x v vl vu lo hi sl Q I rx hs pl pu hq
  obtain ⟨m, F, env, h, σ', w, S, r, p⟩ := hq
  simp only [evSlc] at p
  split at p
  · rename_i xs e
    obtain ⟨a, vs, rfl, sq, dd⟩ := (now_of S.hr r e).list S.hr.sub
    exact sl_list pins s σ H _ v vl vu lo hi sl Q I rx hs pl pu ⟨a, vs, rfl, sq, fun q hq => PostE.newF p S hq (dp_newL S.hr hq (cut_dp dd lo hi))⟩
  · rename_i xs e
    obtain ⟨a, vs, rfl, sq, dd, dx⟩ := (now_of S.hr r e).tuple S.hr.sub
    refine sl_tupA pins s σ H _ v vl vu lo hi sl Q I rx hs pl pu ⟨a, vs, rfl, sq, fun hw => PostE.now p S ?_, fun _ q hq => PostE.newF p S hq (dp_newT S.hr hq (cut_dp dd lo hi))⟩
    rw [dd.length] at hw
    show Dp X.K F _ (.tuple (cutL xs lo hi))
    rw [cut_all hw.1 hw.2]
    exact dx
  · exact p.elim
/-- the reading of a built-in's call -/
def rB (K : PySem.W.Frag) (xr : XRel) (B : List Nat) (Wx : WX) (f : List W → Hq → R W) : List V → Hp → VK → Prop := fun xs H Q => ∃ m F env h σ ws, SR K B m F env h σ H ∧ WRs K m F xs ws ∧ PostE K xr B Wx m F env σ H (f ws h) Q

theorem one_of {m : List Addr} {F : Hp} {xs : List V} {w : W} (h : WRs X.K m F xs [w]) : ∃ v, xs = [v] ∧ WR X.K m F v w := by
  cases h with
  | cons h1 h2 => cases h2; exact ⟨_, rfl, h1⟩
theorem cr_len : CallR X (.builtin "len") (rB X.K xr B Wx (evB .len)) := by
  intro pins s σ H xs us Q I rs hq
  obtain ⟨m, F, env, h, σ', ws, S, r, p⟩ := hq
  match ws, r, p with
  | [w], r, p =>
    obtain ⟨v, rfl, r'⟩ := one_of r
    simp only [evB] at p
    split at p
    · rename_i n e
      have q : Q (.int n) H := PostE.now p S (.int _)
      cases w with
      | d x =>
        cases x <;> simp only [evLen, reduceCtorEq] at e
        case list ds =>
          cases e
          obtain ⟨a, vs, rfl, sq, dd⟩ : ∃ a vs, v = .ref a ∧ SqL X.K F a vs ∧ DpAll X.K F vs ds := by
            have r'' : Dp X.K F v (.list ds) := r'
            cases r'' with
            | lst h1 h2 => exact ⟨_, _, rfl, h1, h2⟩
          refine call_len_seq pins s σ H _ us Q I rs ⟨a, vs, rfl, .inl (S.hr.sub.sql sq), ?_⟩
          rw [dd.length]; exact q
        case tuple ds =>
          cases e
          obtain ⟨a, vs, rfl, sq, dd⟩ : ∃ a vs, v = .ref a ∧ SqT X.K F a vs ∧ DpAll X.K F vs ds := by
            have r'' : Dp X.K F v (.tuple ds) := r'
            cases r'' with
            | tup h1 h2 => exact ⟨_, _, rfl, h1, h2⟩
          refine call_len_seq pins s σ H _ us Q I rs ⟨a, vs, rfl, .inr (S.hr.sub.sqt sq), ?_⟩
          rw [dd.length]; exact q
        case str z =>
          split at e
          · rename_i hz
            cases e
            obtain rfl : v = .str z := by
              have r'' : Dp X.K F v (.str z) := r'
              cases r''; rfl
            exact call_len_str pins s σ H _ us Q I rs ⟨z, rfl, by rw [← sz_eq]; exact hz, q⟩
          · cases e
      | l k =>
        obtain ⟨a, em, rfl⟩ := r'
        simp only [evLen] at e
        split at e
        · rename_i xs eo
          cases e
          obtain ⟨f, vs, eH, dd⟩ := S.hr.ob k _ a eo em
          refine call_len_seq pins s σ H _ us Q I rs ⟨a, vs, rfl, .inl (.of eH), ?_⟩
          rw [dd.length]; exact q
        · rename_i xs eo
          cases e
          obtain ⟨f, vs, eH, dd⟩ := S.hr.ob k _ a eo em
          refine call_len_seq pins s σ H _ us Q I rs ⟨a, vs, rfl, .inl (.of eH), ?_⟩
          rw [dd.length]; exact q
        · rename_i xs eo
          exact (S.hr.ob k _ a eo em).elim
        · cases e
    · exact p.elim
  | [], _, p => exact p.elim
  | _ :: _ :: _, _, p => exact p.elim
theorem cr_tuple : CallR X (.type "tuple") (rB X.K xr B Wx (evB .tuple)) := by
  intro pins s σ H xs us Q I rs hq
  obtain ⟨m, F, env, h, σ', ws, S, r, p⟩ := hq
  match ws, r, p with
  | [w], r, p =>
    obtain ⟨v, rfl, r'⟩ := one_of r
    simp only [evB] at p
    obtain ⟨d, e, p⟩ := liftO_cases p
    rw [Option.map_eq_some_iff] at e
    obtain ⟨xs, e, rfl⟩ := e
    rw [Option.bind_eq_some_iff] at e
    obtain ⟨dx, e1, e2⟩ := e
    cases dx <;> simp only [seqOf, reduceCtorEq] at e2
    case list ds =>
      cases e2
      obtain ⟨a, vs, rfl, sq, dd⟩ := (now_of S.hr r' e1).list S.hr.sub
      exact call_tuple_of pins s σ H _ us Q I rs ⟨a, vs, rfl, .inl ⟨sq, fun q hq => PostE.newF p S hq (dp_newT S.hr hq dd)⟩⟩
    case tuple ds =>
      cases e2
      obtain ⟨a, vs, rfl, sq, dd, dx⟩ := (now_of S.hr r' e1).tuple S.hr.sub
      exact call_tuple_of pins s σ H _ us Q I rs ⟨a, vs, rfl, .inr ⟨sq, PostE.now p S dx⟩⟩
  | [], _, p => exact p.elim
  | _ :: _ :: _, _, p => exact p.elim
theorem cr_list : CallR X (.type "list") (rB X.K xr B Wx (evB .list)) := by
  intro pins s σ H xs us Q I rs hq
  obtain ⟨m, F, env, h, σ', ws, S, r, p⟩ := hq
  match ws, r, p with
  | [w], r, p =>
    obtain ⟨v, rfl, r'⟩ := one_of r
    simp only [evB] at p
    obtain ⟨d, e, p⟩ := liftO_cases p
    rw [Option.map_eq_some_iff] at e
    obtain ⟨xs, e, rfl⟩ := e
    rw [Option.bind_eq_some_iff] at e
    obtain ⟨dx, e1, e2⟩ := e
    cases dx <;> simp only [seqOf, reduceCtorEq] at e2
    case list ds =>
      cases e2
      obtain ⟨a, vs, rfl, sq, dd⟩ := (now_of S.hr r' e1).list S.hr.sub
      exact call_list_of pins s σ H _ us Q I rs ⟨a, vs, rfl, .inl sq, fun q hq => PostE.newF p S hq (dp_newL S.hr hq dd)⟩
    case tuple ds =>
      cases e2
      obtain ⟨a, vs, rfl, sq, dd, dx⟩ := (now_of S.hr r' e1).tuple S.hr.sub
      exact call_list_of pins s σ H _ us Q I rs ⟨a, vs, rfl, .inr sq, fun q hq => PostE.newF p S hq (dp_newL S.hr hq dd)⟩
  | [], _, p => exact p.elim
  | _ :: _ :: _, _, p => exact p.elim
theorem cr_int : CallR X (.type "int") (rB X.K xr B Wx (evB .int)) := by
  intro pins s σ H xs us Q I rs hq
  obtain ⟨m, F, env, h, σ', ws, S, r, p⟩ := hq
  match ws, r, p with
  | [.d (.int i)], r, p =>
    obtain ⟨v, rfl, r'⟩ := one_of r
    have r'' : Dp X.K F v (.int i) := r'
    cases r''
    exact call_int1 pins s σ H _ us Q I rs (.inl ⟨i, rfl, PostE.now p S (.int _)⟩)
  | [.d (.bool k)], r, p =>
    obtain ⟨v, rfl, r'⟩ := one_of r
    have r'' : Dp X.K F v (.bool k) := r'
    cases r''
    exact call_int1 pins s σ H _ us Q I rs (.inr ⟨k, rfl, PostE.now p S (.int _)⟩)
  | [.d .none], _, p => exact p.elim
  | [.d (.str _)], _, p => exact p.elim
  | [.d (.list _)], _, p => exact p.elim
  | [.d (.tuple _)], _, p => exact p.elim
  | [.d (.dict _)], _, p => exact p.elim
  | [.l _], _, p => exact p.elim
  | [], _, p => exact p.elim
  | _ :: _ :: _, _, p => exact (show False by simpa [evB, PostG] using p).elim
theorem ints_vs {F : Hp} : ∀ {ds : List PyData} {vs : List V} {ns : List Int}, DpAll X.K F vs ds → intsOf ds = some ns → vs = ns.map V.int
  | [], _, _, h, e => by cases h; simp [intsOf] at e; subst e; rfl
  | d :: ds, _, _, h, e => by
    cases h with
    | cons h1 h2 =>
      cases d <;> simp only [intsOf, reduceCtorEq] at e
      rw [Option.map_eq_some_iff] at e
      obtain ⟨ns, e, rfl⟩ := e
      cases h1
      rw [ints_vs h2 e]
      rfl
theorem mt_cnt (hu : X.A.units + 200 < cLine) : MtR X "list.count" (fun x xs H Q => ∃ m F env h σ w ws, SR X.K B m F env h σ H ∧ WR X.K m F x w ∧ WRs X.K m F xs ws ∧ PostE X.K xr B Wx m F env σ H (evM .count w ws h) Q) := by
  intro pins s σ H x xs v us Q I rx rxs hq
  obtain ⟨m, F, env, h, σ', w, ws, S, r, rs, p⟩ := hq
  match ws, rs, p with
  | [.d z], rs, p =>
    simp only [evM] at p
    split at p
    · rename_i ys e
      split at p
      · rename_i hd
        obtain ⟨y, rfl, ry⟩ := one_of rs
        obtain ⟨a, vs, rfl, sq, dd⟩ := (now_of S.hr r e).list S.hr.sub
        obtain ⟨uy, rfl, ruy⟩ := vals1 rxs
        cases rx
        obtain ⟨its, rv, ⟨o, n, ho, hc, _, hdd⟩, _⟩ := I.list sq
        have dd' : DpAll X.K H vs ys := dps_mono S.hr.sub _ _ dd
        obtain ⟨as, h4⟩ := Dp.readsAll I ys vs its dd' rv
        have ry1 : Dp X.K F y z := ry
        have ry' : Dp X.K H y z := dp_mono S.hr.sub _ _ ry1
        obtain ⟨bs, h5⟩ := Dp.reads I z y uy ry' ruy
        have := of_decide_eq_true hd
        refine SeqAt.count_list_data (vs := its.toArray) ⟨o, ho, hc, n, hdd⟩ (by simpa using h4) h5 (dps_plain _ _ dd') (dp_plain _ _ ry') (by omega) ?_
        exact ⟨.int _, H, I.tok _, ⟨_, rfl⟩, PostE.now p S (.int _)⟩
      · exact p.elim
    · exact p.elim
  | [.l _], _, p => exact p.elim
  | [], _, p => exact p.elim
  | _ :: _ :: _, _, p => exact (show False by simpa [evM, PostG] using p).elim
end
end Ev

/-! EvH: an expression's value is what the layer's reading asks (sndE). -/
namespace Ev
open PySem PySem.Spec L2

/-- what a def promises: as callN says -/
def spF (K : PySem.W.Frag) (xr : XRel) (T : List FD) (n f : Nat) : Sp := fun vs H Q E => ∃ fd, T[f]? = some fd ∧ vs.length = fd.np ∧ ∃ B b m F ws h, b ∈ B ∧ (∀ c ∈ B, c ≤ b) ∧ HR K B m F h H ∧ WRs K m F vs ws ∧
  match callN T n b f ws h with
  | .ok w h' => ∀ v m' F' H', Ext m F H m' F' H' → HR K B m' F' h' H' → WR K m' F' v w → Q v H'
  | .ex c ds h' => ∀ m' F' H' cls dx, Ext m F H m' F' H' → HR K B m' F' h' H' → xr c ds cls dx F' H' → E cls dx H'
  | .bad => False

def bnames : List Str := ["len", "tuple", "int", "sum", "max", "min", "all", "any", "sorted", "list", "repr", "str", "range", "set", "isinstance", "zip", "dict", "bool"]
/-- what must be known where a term is read -/
structure XOk (X : Cx) (Wx : WX) (M : ME) (xr : XRel) (T : List FD) (n : Nat) (sc : Scope) : Prop where
  calm : X.calm = true
  nd : X.N.Nodup
  hN : X.N = M.N
  hs : X.env.scope = sc
  tk : Takes X Wx
  hu : X.A.units + 200 < cLine
  room : Room n X.A
  bl : ∀ x ∈ bnames, X.mg x = none
  gls : ∀ x i, (x, i) ∈ M.gi → ∃ t, X.mg x = some (.int i t)
  fns : ∀ f x, M.fn[f]? = some x → ∃ a fd ps, X.mg x = some (.ref a) ∧ PySem.W.keepIn X.K (.ref a) = true ∧ Binds X.K fd ps [] ∧ FnOk X.prog X.w X.K X.mg X.base (L2.CX X.prog X.w) n a fd ps (spF X.K xr T n f)

structure SE (X : Cx) (xr : XRel) (B : List Nat) (Wx : WX) (r : Vars → Hq → R W) (p : Expr) : Prop where
  pe : PE X p (tE X.K xr B Wx r)
  pt : notIf p = true → PT X p (tT X.K xr B Wx r)
  pw : isBO p = true → PW X p (tT X.K xr B Wx r)

theorem gl_of {X : Cx} {sc : Scope} {x : Str} (hs : X.env.scope = sc) (h : isGl sc x = true) : Gl X x := by
  unfold Gl Env.kindOf
  rw [hs]
  exact of_decide_eq_true h
theorem vis_of {sc : Scope} {x : Str} (h : isVis sc x = true) : Vis sc x := by
  unfold isVis at h
  split at h
  · exact .inl (by assumption)
  · exact .inr (.inl (by assumption))
  · exact .inr (.inr (by assumption))
  · cases h
theorem sto_of {sc : Scope} {x : Str} (h : isSto sc x = true) : Loc sc x := by
  unfold isSto at h
  split at h
  · exact .inl (by assumption)
  · exact .inr (by assumption)
  · cases h
theorem plainN_of {x : Str} (h : plainN x = true) : (x == ("__debug__" : Str)) = false ∧ (x == ("__classdict__" : Str)) = false ∧ x ≠ "__name__" := by
  unfold plainN at h
  simp only [Bool.and_eq_true, decide_eq_true_eq] at h
  exact ⟨beq_eq_false_iff_ne.mpr h.1.1, beq_eq_false_iff_ne.mpr h.1.2, h.2⟩

section
variable {X : Cx} {xr : XRel} {B : List Nat} {Wx : WX}
theorem star1 {p : Expr} {ps : List Expr} {env : Env} (h : notStar p = true) : starEach (p :: ps) env = (false, eval p env) :: starEach ps env := by
  cases p <;> first | rfl | (simp [notStar] at h)
theorem stars_of {M : ME} {sc : Scope} {env : Env} : ∀ {es : Es} {ps : List Expr}, matEs M sc es ps = true → ∀ pos, (backTo pos (starEach ps env)).any (·.1) = false ∧ (backTo pos (starEach ps env)).all (fun x => !x.1) = true
  | .nil, [], _, pos => ⟨rfl, rfl⟩
  | .nil, _ :: _, h, _ => by simp [matEs] at h
  | .cons _ _, [], h, _ => by simp [matEs] at h
  | .cons e es, p :: ps, h, pos => by
    simp only [matEs, Bool.and_eq_true] at h
    rw [star1 h.1.1]
    have ih := stars_of (env := env) h.2 pos
    unfold backTo at ih ⊢
    simp only [List.map_cons, List.any_cons, List.all_cons, Bool.false_or, Bool.not_false, Bool.true_and]
    exact ih
theorem star_head {M : ME} {sc : Scope} {es : Es} {p : Expr} {ps : List Expr} (h : matEs M sc es (p :: ps) = true) : notStar p = true := by
  cases es with
  | nil => simp [matEs] at h
  | cons e es => simp only [matEs, Bool.and_eq_true] at h; exact h.1.1

/-- two values, one operator -/
theorem tOp_read {ra rb : Vars → Hq → R W} {f : W → W → Hq → R W} (σ : L2.St) (H : Hp) (Q : VK) (p : tE X.K xr B Wx (fun env h => (ra env h).bind fun v h => (rb env h).bind fun w h => f v w h) σ H Q) :
    tOp (rOp X.K xr B Wx f) (tE X.K xr B Wx ra) (tE X.K xr B Wx rb) σ H Q := by
  obtain ⟨m, F, env, h, S, p⟩ := p
  refine ⟨m, F, env, h, S, p.bind.mono fun w1 h1 m1 F1 H1 x1 S1 p x r1 => ⟨m1, F1, env, h1, S1, p.bind.mono fun w2 h2 m2 F2 H2 x2 S2 p y r2 => ?_⟩⟩
  exact ⟨m2, F2, env, h2, σ, w1, w2, S2, wr_mono x2.ml x2.sub r1, r2, p⟩
theorem SE.of_plain {r : Vars → Hq → R W} {p : Expr} (h : PE X p (tE X.K xr B Wx r)) (he : ∀ whole, isTrue p X.env whole = (do let v ← whole; standAt p.pos; holding [v] (truthy v))) (hb : isBO p = false) : SE X xr B Wx r p := by
  refine ⟨h, fun _ => (pt_val h he).weak fun σ H Q q => ?_, fun z => by rw [hb] at z; cases z⟩
  obtain ⟨m, F, env, h, S, q⟩ := q
  refine ⟨m, F, env, h, S, q.mono fun w h1 m1 F1 H1 x1 S1 q v rv => ?_⟩
  obtain ⟨k, rfl, q⟩ := q
  have rv : Dp X.K F1 v (.bool k) := rv
  cases rv
  exact ⟨k, rfl, q⟩
theorem tB_of {r : Vars → Hq → R W} (σ : L2.St) (H : Hp) (Q : Bool → Hp → Prop) (q : tT X.K xr B Wx r σ H Q) : tB (tE X.K xr B Wx r) σ H Q := by
  obtain ⟨m, F, env, h, S, q⟩ := q
  refine ⟨m, F, env, h, S, q.mono fun w h1 m1 F1 H1 x1 S1 q v rv => ?_⟩
  obtain ⟨k, rfl, q⟩ := q
  have rv : Dp X.K F1 v (.bool k) := rv
  cases rv
  exact ⟨k, rfl, q⟩
theorem tTest_weak {t t' : TE} (i : ∀ σ H Q, t' σ H Q → t σ H Q) (σ : L2.St) (H : Hp) (Q : Bool → Hp → Prop) (q : tB t' σ H Q) : tTest t σ H Q := i _ _ _ q
end

section
variable {M : ME} {xr : XRel} {T : List FD} {n b : Nat} {B : List Nat}

theorem bt_gl {X : Cx} {Wx : WX} {sc : Scope} {f : Bt} (k : XOk X Wx M xr T n sc) : X.mg f.nm = none := k.bl _ (by cases f <;> decide +kernel)

theorem nIt {ws : List W} {K : PySem.W.Frag} {m : List Addr} {F H : Hp} {J : L2.It} (h : ItOk K m F J ws) : True := trivial

/-- a term that stands for the text's piece -/
def SndE (M : ME) (xr : XRel) (T : List FD) (n b : Nat) (B : List Nat) (e : E) : Prop := ∀ (X : Cx) (Wx : WX) (sc : Scope) (p : Expr), XOk X Wx M xr T n sc → matE M sc e p = true → SE X xr B Wx (evE b (callN T n) e) p
def SndEs (M : ME) (xr : XRel) (T : List FD) (n b : Nat) (B : List Nat) (es : Es) : Prop := ∀ (X : Cx) (Wx : WX) (sc : Scope) (ps : List Expr), XOk X Wx M xr T n sc → matEs M sc es ps = true → PA X ps (tA X.K xr B Wx (evEs b (callN T n) es))

theorem snd_var (i : Nat) : SndE M xr T n b B (.var i) := by
  intro X Wx sc p k h
  cases p <;> simp only [matE, Bool.false_eq_true] at h
  rename_i x pos
  simp only [Bool.and_eq_true] at h
  obtain ⟨⟨h1, h2⟩, h3⟩ := h
  obtain ⟨h4, h5, _⟩ := plainN_of h3
  refine SE.of_plain ((pe_var (i := i) (by rw [k.hN]; exact of_decide_eq_true h1) (by rw [k.hs]; exact vis_of h2) h4 h5).weak fun σ H Q q => ?_) (fun _ => rfl) rfl
  obtain ⟨m, F, env, hq, S, q⟩ := q
  simp only [evE] at q
  split at q
  · rename_i w e
    obtain ⟨v, ev, rv⟩ := S.var i w e
    exact ⟨v, ev, PostE.now q S rv⟩
  · exact q.elim
theorem snd_lit (c : PyData) : SndE M xr T n b B (.lit c) := by
  intro X Wx sc p k h
  cases p <;> simp only [matE, Bool.false_eq_true] at h
  rename_i cc j pos
  have nw : ∀ {σ H Q} {v : V}, (∀ F, Dp X.K F v c) → tE X.K xr B Wx (evE b (callN T n) (.lit c)) σ H Q → Q v H := fun {σ H Q v} d q => by
    obtain ⟨m, F, env, hq, S, q⟩ := q
    exact PostE.now q S (d F)
  cases c <;> cases cc <;> simp only [matC, Bool.false_eq_true, decide_eq_true_eq] at h
  case none.none => exact SE.of_plain (pe_non.weak fun σ H Q q => nw (fun _ => .non) q) (fun _ => rfl) rfl
  case bool.bool => subst h; exact SE.of_plain (pe_bl.weak fun σ H Q q => nw (fun _ => .bl _) q) (fun _ => rfl) rfl
  case int.int => subst h; exact SE.of_plain (pe_int.weak fun σ H Q q => nw (fun _ => .int _) q) (fun _ => rfl) rfl
  case str.str => subst h; exact SE.of_plain (pe_str.weak fun σ H Q q => nw (fun _ => .str _) q) (fun _ => rfl) rfl

theorem snd_nil : SndEs M xr T n b B .nil := by
  intro X Wx sc ps k h
  cases ps with
  | cons _ _ => simp [matEs] at h
  | nil =>
    refine PA.weak pa_nil fun σ H Q q => ?_
    obtain ⟨m, F, env, hq, S, q⟩ := q
    exact q m F H (.refl ..) S [] .nil
theorem snd_cons {e : E} {es : Es} (he : SndE M xr T n b B e) (hes : SndEs M xr T n b B es) : SndEs M xr T n b B (.cons e es) := by
  intro X Wx sc ps k h
  cases ps with
  | nil => simp [matEs] at h
  | cons p ps =>
    simp only [matEs, Bool.and_eq_true] at h
    refine PA.weak (pa_cons (he X Wx sc p k h.1.2).pe (hes X Wx sc ps k h.2) (star1 h.1.1)) fun σ H Q q => ?_
    obtain ⟨m, F, env, hq, S, q⟩ := q
    refine ⟨m, F, env, hq, S, (PostG.bind q).mono fun w h1 m1 F1 H1 x1 S1 q x r1 => ⟨m1, F1, env, h1, S1, q.bind.mono fun ws h2 m2 F2 H2 x2 S2 q xs r2 => ?_⟩⟩
    exact q m2 F2 H2 (.refl ..) S2 _ (.cons (wr_mono x2.ml x2.sub r1) r2)
theorem ev_len : ∀ (C : CallF) (es : Es) {env : Vars} {h h' : Hq} {ws : List W}, evEs b C es env h = .ok ws h' → ws.length = es.len
  | _, .nil, _, _, _, _, e => by simp only [evEs, R.ok.injEq] at e; rw [← e.1]; rfl
  | C, .cons e es, env, h, h', ws, q => by
    simp only [evEs] at q
    cases h1 : evE b C e env h with
    | ok w h1' =>
      rw [h1] at q
      simp only [R.bind] at q
      cases h2 : evEs b C es env h1' with
      | ok ws2 h2' =>
        rw [h2] at q
        simp only [R.ok.injEq] at q
        rw [← q.1, List.length_cons, ev_len C es h2]
        rfl
      | ex _ _ _ => rw [h2] at q; simp at q
      | bad => rw [h2] at q; simp at q
    | ex _ _ _ => rw [h1] at q; simp [R.bind] at q
    | bad => rw [h1] at q; simp [R.bind] at q
/-- a display: its items, then the new thing -/
theorem disp {X : Cx} {Wx : WX} {es : Es} {g : List W → Hq → R W} {σ : L2.St} {H : Hp} {Q : VK} {G : List V → Hp → Prop} (q : tE X.K xr B Wx (fun env h => (evEs b (callN T n) es env h).bind g) σ H Q) (hl : es.len ≤ 10000)
    (fin : ∀ m F env h H ws vs, SR X.K B m F env h σ H → WRs X.K m F vs ws → ws.length ≤ sizeLine → PostE X.K xr B Wx m F env σ H (g ws h) Q → G vs H) : tA X.K xr B Wx (evEs b (callN T n) es) σ H (fun vs H1 => vs.length ≤ sizeLine ∧ G vs H1) := by
  obtain ⟨m, F, env, hq, S, q⟩ := q
  refine ⟨m, F, env, hq, S, ?_⟩
  have q' := q.bind
  have small : ∀ k : Nat, k ≤ 10000 → k ≤ sizeLine := fun k hk => by rw [PySem.sizeLine_eq]; omega
  cases e : evEs b (callN T n) es env hq with
  | ok ws h1 =>
    have len := ev_len _ _ e
    rw [e] at q'
    intro m1 F1 H1 x1 S1 vs rv
    have hw : ws.length ≤ sizeLine := small _ (by omega)
    exact ⟨by rw [rv.length]; exact hw, fin m1 F1 env h1 H1 ws vs S1 rv hw (q' m1 F1 H1 x1 S1)⟩
  | ex c ds h1 => rw [e] at q'; exact q'
  | bad => rw [e] at q'; exact q'
theorem snd_tup {es : Es} (hes : SndEs M xr T n b B es) : SndE M xr T n b B (.tup es) := by
  intro X Wx sc p k h
  cases p <;> simp only [matE, Bool.false_eq_true, Bool.and_eq_true, decide_eq_true_eq] at h
  refine SE.of_plain ((pe_tup (hes X Wx sc _ k h.1)).weak fun σ H Q q => ?_) (fun _ => rfl) rfl
  refine disp (by simpa only [tE, evE] using q) h.2 fun m F env hq H ws vs S rv hl q p hp => ?_
  split at q
  · rename_i ds e
    exact PostE.newF q S hp (dp_newT S.hr hp (rv.toD e))
  · exact q.elim
theorem snd_lst {es : Es} (hes : SndEs M xr T n b B es) : SndE M xr T n b B (.lst es) := by
  intro X Wx sc p k h
  cases p <;> simp only [matE, Bool.false_eq_true, Bool.and_eq_true, decide_eq_true_eq] at h
  refine SE.of_plain ((pe_lst (hes X Wx sc _ k h.1)).weak fun σ H Q q => ?_) (fun _ => rfl) rfl
  refine disp (by simpa only [tE, evE] using q) h.2 fun m F env hq H ws vs S rv hl q p hp => ?_
  split at q
  · rename_i ds e
    exact PostE.newF q S hp (dp_newL S.hr hp (rv.toD e))
  · exact q.elim
theorem snd_lstM {es : Es} (hes : SndEs M xr T n b B es) : SndE M xr T n b B (.lstM es) := by
  intro X Wx sc p k h
  cases p <;> simp only [matE, Bool.false_eq_true, Bool.and_eq_true, decide_eq_true_eq] at h
  refine SE.of_plain ((pe_lst (hes X Wx sc _ k h.1)).weak fun σ H Q q => ?_) (fun _ => rfl) rfl
  refine disp (by simpa only [tE, evE] using q) h.2 fun m F env hq H ws vs S rv hl q p hp => ?_
  split at q
  · rename_i ds e
    exact PostE.newL (o := .lst ds) q S hp ⟨S.hr.freeF hp, vs, upd_same, rv.toD e⟩
  · exact q.elim
theorem snd_lsw {es : Es} (hes : SndEs M xr T n b B es) : SndE M xr T n b B (.lsw es) := by
  intro X Wx sc p k h
  cases p <;> simp only [matE, Bool.false_eq_true, Bool.and_eq_true, decide_eq_true_eq] at h
  refine SE.of_plain ((pe_lst (hes X Wx sc _ k h.1)).weak fun σ H Q q => ?_) (fun _ => rfl) rfl
  refine disp (by simpa only [tE, evE] using q) h.2 fun m F env hq H ws vs S rv hl q p hp => ?_
  exact PostE.newL (o := .lsw ws) q S hp ⟨S.hr.freeF hp, vs, upd_same, wrs_mono ⟨[p], rfl⟩ (.refl _) rv⟩
theorem snd_bin {o : Operator} {x y : E} (hx : SndE M xr T n b B x) (hy : SndE M xr T n b B y) : SndE M xr T n b B (.bin o x y) := by
  intro X Wx sc p k h
  cases p <;> simp only [matE, Bool.false_eq_true, Bool.and_eq_true, decide_eq_true_eq] at h
  obtain ⟨⟨rfl, h1⟩, h2⟩ := h
  refine SE.of_plain ((pe_op (op_bin o) (hx X Wx sc _ k h1).pe (hy X Wx sc _ k h2).pe).weak fun σ H Q q => tOp_read σ H Q (by simpa only [tE, evE] using q)) (fun _ => rfl) rfl
theorem snd_cmp {o : CmpOp} {x y : E} (hx : SndE M xr T n b B x) (hy : SndE M xr T n b B y) : SndE M xr T n b B (.cmp o x y) := by
  intro X Wx sc p k h
  cases p <;> try (simp only [matE, Bool.false_eq_true] at h; done)
  rename_i l ops cs pos
  match ops, cs, h with
  | [o'], [pb], h =>
    simp only [matE, Bool.and_eq_true, decide_eq_true_eq] at h
    obtain ⟨⟨⟨rfl, h0⟩, h1⟩, h2⟩ := h
    have hm : behindInMarks o pb = false := by cases pb <;> first | rfl | (simp [notSet] at h0)
    have a := (hx X Wx sc _ k h1).pe
    have c := (hy X Wx sc _ k h2).pe
    refine ⟨(pe_cmpR (op_cmp k.hu o) a c hm).weak fun σ H Q q => tOp_read σ H Q (by simpa only [tE, evE] using q), fun _ => (pt_cmpR (op_cmp (xr := xr) (B := B) (Wx := Wx) k.hu o) a c hm).weak fun σ H Q q => ?_, fun z => by cases z⟩
    exact tTest_weak (t' := tE X.K xr B Wx (evE b (callN T n) (.cmp o x y))) (fun σ H Q q => tOp_read σ H Q (by simpa only [tE, evE] using q)) σ H Q (tB_of σ H Q q)
  | [], _, h => simp [matE] at h
  | [_], [], h => simp [matE] at h
  | [_], _ :: _ :: _, h => simp [matE] at h
  | _ :: _ :: _, _, h => simp [matE] at h
end
end Ev

/-! EvI: the rest of the expressions; all of them (sndE). -/
namespace Ev
open PySem PySem.Spec L2
section
variable {M : ME} {xr : XRel} {T : List FD} {n b : Nat} {B : List Nat}

theorem bind1 {K : PySem.W.Frag} {Wx : WX} {ra : Vars → Hq → R W} {g : Vars → W → Hq → R W} {σ : L2.St} {H : Hp} {Q : VK} {Q' : VK} (p : tE K xr B Wx (fun env h => (ra env h).bind (g env)) σ H Q)
    (i : ∀ m F env h H w v, SR K B m F env h σ H → WR K m F v w → PostE K xr B Wx m F env σ H (g env w h) Q → Q' v H) : tE K xr B Wx ra σ H Q' := by
  obtain ⟨m, F, env, h, S, p⟩ := p
  exact ⟨m, F, env, h, S, p.bind.mono fun w h1 m1 F1 H1 x1 S1 p v rv => i m1 F1 env h1 H1 w v S1 rv p⟩

theorem snd_neg {x : E} (hx : SndE M xr T n b B x) : SndE M xr T n b B (.neg x) := by
  intro X Wx sc p k h
  cases p <;> try (simp only [matE, Bool.false_eq_true] at h; done)
  rename_i o pa pos
  cases o <;> simp only [matE, Bool.false_eq_true] at h
  refine SE.of_plain ((pe_un un_neg (hx X Wx sc _ k h).pe).weak fun σ H Q q => ?_) (fun _ => rfl) rfl
  simp only [tE, evE] at q
  refine bind1 (ra := evE b (callN T n) x) q fun m F env hq H w v S r q => ?_
  split at q
  · rename_i i
    have r : Dp X.K F v (.int i) := r
    cases r
    exact ⟨i, rfl, PostE.now q S (.int _)⟩
  · exact q.elim
theorem tT_of {X : Cx} {Wx : WX} {r : Vars → Hq → R W} {t : TE} {σ : L2.St} {H : Hp} {Q : Bool → Hp → Prop} (i : ∀ σ H Q, tE X.K xr B Wx r σ H Q → t σ H Q) (q : tT X.K xr B Wx r σ H Q) : tB t σ H Q := i σ H _ (tB_of σ H Q q)
theorem snd_nt {x : E} (hx : SndE M xr T n b B x) : SndE M xr T n b B (.nt x) := by
  intro X Wx sc p k h
  cases p <;> try (simp only [matE, Bool.false_eq_true] at h; done)
  rename_i o pa pos
  cases o <;> simp only [matE, Bool.false_eq_true, Bool.and_eq_true] at h
  have a := hx X Wx sc _ k h.1
  refine ⟨(pe_not a.pe).weak fun σ H Q q => ?_, fun _ => (pt_not (a.pt h.2)).weak fun σ H Q q => ?_, fun z => by cases z⟩
  · simp only [tE, evE] at q
    refine bind1 (ra := evE b (callN T n) x) q fun m F env hq H w v S r q => ?_
    split at q
    · rename_i i
      have r : Dp X.K F v (.bool i) := r
      cases r
      exact ⟨i, rfl, PostE.now q S (.bl _)⟩
    · exact q.elim
  · obtain ⟨m, F, env, hq, S, q⟩ := q
    refine ⟨m, F, env, hq, S, (PostG.bind q).mono fun w h1 m1 F1 H1 x1 S1 q => ?_⟩
    split at q
    · rename_i i
      obtain ⟨k, e, q⟩ := q m1 F1 H1 (.refl ..) S1
      cases e
      exact ⟨i, rfl, q⟩
    · exact q.elim
theorem isn_read {X : Cx} {Wx : WX} {x : E} {σ : L2.St} {H : Hp} {Q : VK} (q : tE X.K xr B Wx (evE b (callN T n) (.isN x)) σ H Q) : tIsN (tE X.K xr B Wx (evE b (callN T n) x)) σ H Q := by
  simp only [tE, evE] at q
  refine bind1 (ra := evE b (callN T n) x) q fun m F env hq H w v S r q => ?_
  have fin : ∀ k, decide (v = .non) = k → PostE X.K xr B Wx m F env σ H (.ok (.d (.bool k)) hq) Q → Q (.bl (decide (v = .non))) H := fun k e q => by
    rw [e]; exact PostE.now q S (.bl k)
  cases w with
  | l j =>
    obtain ⟨a, _, rfl⟩ := r
    exact fin false (by simp) q
  | d y =>
    have r : Dp X.K F v y := r
    cases r with
    | non => exact fin true (by decide) q
    | bl _ => exact fin false (by simp) q
    | int _ => exact fin false (by simp) q
    | str _ => exact fin false (by simp) q
    | lst _ _ => exact fin false (by simp) q
    | tup _ _ => exact fin false (by simp) q
theorem notn_read {X : Cx} {Wx : WX} {x : E} {σ : L2.St} {H : Hp} {Q : VK} (q : tE X.K xr B Wx (evE b (callN T n) (.notN x)) σ H Q) : tNotN (tE X.K xr B Wx (evE b (callN T n) x)) σ H Q := by
  simp only [tE, evE] at q
  refine bind1 (ra := evE b (callN T n) x) q fun m F env hq H w v S r q => ?_
  have fin : ∀ k, decide (v = .non) = !k → PostE X.K xr B Wx m F env σ H (.ok (.d (.bool k)) hq) Q → Q (.bl (!decide (v = .non))) H := fun k e q => by
    rw [e, Bool.not_not]; exact PostE.now q S (.bl k)
  cases w with
  | l j =>
    obtain ⟨a, _, rfl⟩ := r
    exact fin true (by simp) q
  | d y =>
    have r : Dp X.K F v y := r
    cases r with
    | non => exact fin false (by simp) q
    | bl _ => exact fin true (by simp) q
    | int _ => exact fin true (by simp) q
    | str _ => exact fin true (by simp) q
    | lst _ _ => exact fin true (by simp) q
    | tup _ _ => exact fin true (by simp) q
theorem snd_isN {x : E} (hx : SndE M xr T n b B x) : SndE M xr T n b B (.isN x) := by
  intro X Wx sc p k h
  cases p <;> try (simp only [matE, Bool.false_eq_true] at h; done)
  rename_i l ops cs pos
  rcases ops with _ | ⟨o, _ | ⟨o2, os⟩⟩ <;> rcases cs with _ | ⟨c, _ | ⟨c2, cs⟩⟩ <;> try (simp [matE] at h; done)
  cases o <;> try (simp [matE] at h; done)
  cases c <;> try (simp [matE] at h; done)
  rename_i c _ _
  cases c <;> try (simp [matE] at h; done)
  simp only [matE] at h
  have a := (hx X Wx sc _ k h).pe
  exact ⟨(pe_cmp (pc_isN a) rfl).weak fun σ H Q q => isn_read q, fun _ => (pt_cmp (pc_isN a) rfl).weak fun σ H Q q => tT_of (fun σ H Q q => isn_read q) q, fun z => by cases z⟩
theorem snd_notN {x : E} (hx : SndE M xr T n b B x) : SndE M xr T n b B (.notN x) := by
  intro X Wx sc p k h
  cases p <;> try (simp only [matE, Bool.false_eq_true] at h; done)
  rename_i l ops cs pos
  rcases ops with _ | ⟨o, _ | ⟨o2, os⟩⟩ <;> rcases cs with _ | ⟨c, _ | ⟨c2, cs⟩⟩ <;> try (simp [matE] at h; done)
  cases o <;> try (simp [matE] at h; done)
  cases c <;> try (simp [matE] at h; done)
  rename_i c _ _
  cases c <;> try (simp [matE] at h; done)
  simp only [matE] at h
  have a := (hx X Wx sc _ k h).pe
  exact ⟨(pe_cmp (pc_notN a) rfl).weak fun σ H Q q => notn_read q, fun _ => (pt_cmp (pc_notN a) rfl).weak fun σ H Q q => tT_of (fun σ H Q q => notn_read q) q, fun z => by cases z⟩

theorem chain_read {X : Cx} {Wx : WX} {o o' : CmpOp} {x y z : E} {σ : L2.St} {H : Hp} {Q : VK} (q : tE X.K xr B Wx (evE b (callN T n) (.cmp2 o o' x y z)) σ H Q) :
    tChain (rOp X.K xr B Wx (op2 (evCmp o))) (rOp X.K xr B Wx (op2 (evCmp o'))) (tE X.K xr B Wx (evE b (callN T n) x)) (tE X.K xr B Wx (evE b (callN T n) y)) (tE X.K xr B Wx (evE b (callN T n) z)) σ H Q := by
  obtain ⟨m, F, env, h, S, p⟩ := q
  simp only [evE] at p
  refine ⟨m, F, env, h, S, p.bind.mono fun w1 h1 m1 F1 H1 x1 S1 p x r1 => ⟨m1, F1, env, h1, S1, p.bind.mono fun w2 h2 m2 F2 H2 x2 S2 p y r2 => ?_⟩⟩
  refine ⟨m2, F2, env, h2, σ, w1, w2, S2, wr_mono x2.ml x2.sub r1, r2, p.bind.mono fun w3 h3 m3 F3 H3 x3 S3 p v r3 => ?_⟩
  split at p
  · have r3 : Dp X.K F3 v (.bool true) := r3
    cases r3
    refine ⟨true, rfl, iteT ⟨m3, F3, env, h3, S3, p.bind.mono fun w4 h4 m4 F4 H4 x4 S4 p u r4 => ?_⟩⟩
    exact ⟨m4, F4, env, h4, σ, w2, w4, S4, wr_mono (x3.trans x4).ml (x3.trans x4).sub r2, r4, p⟩
  · have r3 : Dp X.K F3 v (.bool false) := r3
    cases r3
    exact ⟨false, rfl, iteF (PostE.now p S3 (.bl _))⟩
  · exact p.elim
theorem snd_cmp2 {o o' : CmpOp} {x y z : E} (hx : SndE M xr T n b B x) (hy : SndE M xr T n b B y) (hz : SndE M xr T n b B z) : SndE M xr T n b B (.cmp2 o o' x y z) := by
  intro X Wx sc p k h
  cases p <;> try (simp only [matE, Bool.false_eq_true] at h; done)
  rename_i l ops cs pos
  rcases ops with _ | ⟨o1, _ | ⟨o2, _ | ⟨o3, os⟩⟩⟩ <;> rcases cs with _ | ⟨c, _ | ⟨c2, _ | ⟨c3, cs⟩⟩⟩ <;> try (simp [matE] at h; done)
  simp only [matE, Bool.and_eq_true, decide_eq_true_eq] at h
  obtain ⟨⟨⟨⟨⟨⟨rfl, rfl⟩, g1⟩, g2⟩, h1⟩, h2⟩, h3⟩ := h
  have hm : ∀ {o : CmpOp} {c : Expr}, notSet c = true → behindInMarks o c = false := fun {o c} g => by cases c <;> first | rfl | (simp [notSet] at g)
  have a1 := (hx X Wx sc _ k h1).pe
  have a2 := (hy X Wx sc _ k h2).pe
  have a3 := (hz X Wx sc _ k h3).pe
  have mk : ∀ {o : CmpOp} {c : Expr}, notSet c = true → markedBehindIn o c = fun t => t := fun {o c} g => by
    funext t
    unfold markedBehindIn
    rw [hm g]
  refine ⟨(pe_chain (op_cmp (xr := xr) (B := B) (Wx := Wx) k.hu o) (op_cmp (xr := xr) (B := B) (Wx := Wx) k.hu o') a1 a2 a3 ?_).weak fun σ H Q q => chain_read q, fun _ => (pt_chain (op_cmp (xr := xr) (B := B) (Wx := Wx) k.hu o) (op_cmp (xr := xr) (B := B) (Wx := Wx) k.hu o') a1 a2 a3 ?_).weak fun σ H Q q => ?_, fun z => by cases z⟩
  all_goals first | exact hm g2 | exact tT_of (fun σ H Q q => chain_read q) (by assumption)
theorem snd_one {x : E} (hx : SndE M xr T n b B x) : SndE M xr T n b B (.one x) := by
  intro X Wx sc p k h
  cases p <;> try (simp only [matE, Bool.false_eq_true] at h; done)
  rename_i o ps pos
  rcases ps with _ | ⟨p, _ | ⟨p2, ps⟩⟩ <;> try (simp [matE] at h; done)
  simp only [matE, Bool.and_eq_true] at h
  have a := hx X Wx sc _ k h.1
  have e : ∀ {σ H Q}, tE X.K xr B Wx (evE b (callN T n) (.one x)) σ H Q → tE X.K xr B Wx (evE b (callN T n) x) σ H Q := fun {σ H Q} q => by simpa only [tE, evE] using q
  have e' : ∀ {σ H Q}, tT X.K xr B Wx (evE b (callN T n) (.one x)) σ H Q → tT X.K xr B Wx (evE b (callN T n) x) σ H Q := fun {σ H Q} q => by simpa only [tT, evE] using q
  have w : PW X (.BoolOp o [p] pos) (tT X.K xr B Wx (evE b (callN T n) (.one x))) := by
    cases o
    · exact (pw_and1 (a.pt h.2)).weak fun σ H Q q => e' q
    · exact (pw_or1 (a.pt h.2)).weak fun σ H Q q => e' q
  exact ⟨(pe_one a.pe).weak fun σ H Q q => e q, fun _ => w.pt, fun _ => w⟩
theorem snd_and {x y : E} (hx : SndE M xr T n b B x) (hy : SndE M xr T n b B y) : SndE M xr T n b B (.and x y) := by
  intro X Wx sc p k h
  cases p <;> try (simp only [matE, Bool.false_eq_true] at h; done)
  rename_i o ps pos
  cases o <;> rcases ps with _ | ⟨p, _ | ⟨p2, ps⟩⟩ <;> try (simp [matE] at h; done)
  simp only [matE, Bool.and_eq_true] at h
  have a := hx X Wx sc _ k h.1.1
  have c := hy X Wx sc _ k h.2
  have w : PW X (.BoolOp .And (p :: p2 :: ps) pos) (tT X.K xr B Wx (evE b (callN T n) (.and x y))) := by
    refine (pw_and (a.pt h.1.2) (c.pw rfl)).weak fun σ H Q q => ?_
    obtain ⟨m, F, env, hq, S, q⟩ := q
    simp only [evE] at q
    refine ⟨m, F, env, hq, S, q.bind.mono fun w h1 m1 F1 H1 x1 S1 q => ?_⟩
    split at q
    · exact ⟨true, rfl, iteT ⟨m1, F1, env, h1, S1, q⟩⟩
    · obtain ⟨k, e, q⟩ := q m1 F1 H1 (.refl ..) S1
      cases e
      exact ⟨false, rfl, iteF q⟩
    · exact q.elim
  refine ⟨(pe_and a.pe c.pe).weak fun σ H Q q => ?_, fun _ => w.pt, fun _ => w⟩
  simp only [tE, evE] at q
  refine bind1 (ra := evE b (callN T n) x) q fun m F env hq H w v S r q => ?_
  split at q
  · have r : Dp X.K F v (.bool true) := r
    cases r
    exact ⟨true, rfl, iteT ⟨m, F, env, hq, S, q⟩⟩
  · have r : Dp X.K F v (.bool false) := r
    cases r
    exact ⟨false, rfl, iteF (PostE.now q S (.bl _))⟩
  · exact q.elim
theorem snd_or {x y : E} (hx : SndE M xr T n b B x) (hy : SndE M xr T n b B y) : SndE M xr T n b B (.or x y) := by
  intro X Wx sc p k h
  cases p <;> try (simp only [matE, Bool.false_eq_true] at h; done)
  rename_i o ps pos
  cases o <;> rcases ps with _ | ⟨p, _ | ⟨p2, ps⟩⟩ <;> try (simp [matE] at h; done)
  simp only [matE, Bool.and_eq_true] at h
  have a := hx X Wx sc _ k h.1.1
  have c := hy X Wx sc _ k h.2
  have w : PW X (.BoolOp .Or (p :: p2 :: ps) pos) (tT X.K xr B Wx (evE b (callN T n) (.or x y))) := by
    refine (pw_or (a.pt h.1.2) (c.pw rfl)).weak fun σ H Q q => ?_
    obtain ⟨m, F, env, hq, S, q⟩ := q
    simp only [evE] at q
    refine ⟨m, F, env, hq, S, q.bind.mono fun w h1 m1 F1 H1 x1 S1 q => ?_⟩
    split at q
    · obtain ⟨k, e, q⟩ := q m1 F1 H1 (.refl ..) S1
      cases e
      exact ⟨true, rfl, iteT q⟩
    · exact ⟨false, rfl, iteF ⟨m1, F1, env, h1, S1, q⟩⟩
    · exact q.elim
  refine ⟨(pe_or a.pe c.pe).weak fun σ H Q q => ?_, fun _ => w.pt, fun _ => w⟩
  simp only [tE, evE] at q
  refine bind1 (ra := evE b (callN T n) x) q fun m F env hq H w v S r q => ?_
  split at q
  · have r : Dp X.K F v (.bool true) := r
    cases r
    exact ⟨true, rfl, iteT (PostE.now q S (.bl _))⟩
  · have r : Dp X.K F v (.bool false) := r
    cases r
    exact ⟨false, rfl, iteF ⟨m, F, env, hq, S, q⟩⟩
  · exact q.elim
/-- a test, then one of two -/
theorem bindT1 {K : PySem.W.Frag} {Wx : WX} {ra : Vars → Hq → R W} {r1 r2 : Vars → Hq → R W} {σ : L2.St} {H : Hp} {Q : VK} (p : tE K xr B Wx (fun env h => (ra env h).bind fun v h => match v with
      | .d (.bool true) => r1 env h
      | .d (.bool false) => r2 env h
      | _ => .bad) σ H Q) : tIf (tT K xr B Wx ra) (tE K xr B Wx r1) (tE K xr B Wx r2) σ H Q := by
  obtain ⟨m, F, env, h, S, p⟩ := p
  refine ⟨m, F, env, h, S, p.bind.mono fun w h1 m1 F1 H1 x1 S1 p => ?_⟩
  split at p
  · exact ⟨true, rfl, iteT ⟨m1, F1, env, h1, S1, p⟩⟩
  · exact ⟨false, rfl, iteF ⟨m1, F1, env, h1, S1, p⟩⟩
  · exact p.elim
theorem snd_ife {c x y : E} (hc : SndE M xr T n b B c) (hx : SndE M xr T n b B x) (hy : SndE M xr T n b B y) : SndE M xr T n b B (.ife c x y) := by
  intro X Wx sc p k h
  cases p <;> simp only [matE, Bool.false_eq_true, Bool.and_eq_true] at h
  refine ⟨(pe_ifExp ((hc X Wx sc _ k h.1.1.1).pt h.1.1.2) (hx X Wx sc _ k h.1.2).pe (hy X Wx sc _ k h.2).pe).weak fun σ H Q q => ?_, (fun z => by cases z), (fun z => by cases z)⟩
  simp only [tE, evE] at q
  exact bindT1 q
theorem snd_idx {x i : E} (hx : SndE M xr T n b B x) (hi : SndE M xr T n b B i) : SndE M xr T n b B (.idx x i) := by
  intro X Wx sc p k h
  cases p <;> try (simp only [matE, Bool.false_eq_true] at h; done)
  rename_i pa pi pos
  simp only [matE, Bool.and_eq_true] at h
  have hp : PlainIx pi := by
    intro o i
    cases pi <;> first | rfl | (simp [notSlice] at h)
  exact SE.of_plain ((pe_ix (ix_E trivial) (hx X Wx sc _ k h.1.2).pe (hi X Wx sc _ k h.2).pe hp).weak fun σ H Q q => tOp_read (f := fun a i h => evIdx h a i) σ H Q (by simpa only [tE, evE] using q)) (fun _ => rfl) rfl
/-- a part of a slice -/
def tOe (K : PySem.W.Frag) (xr : XRel) (B : List Nat) (Wx : WX) (f : Vars → Hq → R (Option W)) : TO := fun σ H Q => ∃ m F env h, SR K B m F env h σ H ∧ PostG K xr B Wx m F env σ H (f env h) (fun w _ m' F' H' => ∃ i, intO w = some i ∧ Q i H')
theorem po_of {X : Cx} {Wx : WX} {sc : Scope} {o : Oe} {p : Option Expr} (k : XOk X Wx M xr T n sc) (ho : ∀ e, o = .some e → SndE M xr T n b B e) (h : matOe M sc o p = true) : PO X p (tOe X.K xr B Wx (evOe b (callN T n) o)) := by
  cases o with
  | none =>
    cases p with
    | some _ => simp [matOe] at h
    | none =>
      refine ⟨fun pins s σ H Q I q => po_none.run pins s σ H Q I ?_⟩
      obtain ⟨m, F, env, hq, S, q⟩ := q
      obtain ⟨i, e, q⟩ := q m F H (.refl ..) S
      cases e
      exact q
  | some e =>
    cases p with
    | none => simp [matOe] at h
    | some p =>
      simp only [matOe] at h
      refine ⟨fun pins s σ H Q I q => (po_some (ho e rfl X Wx sc p k h).pe).run pins s σ H Q I ?_⟩
      obtain ⟨m, F, env, hq, S, q⟩ := q
      simp only [evOe] at q
      refine ⟨m, F, env, hq, S, q.bind.mono fun w h1 m1 F1 H1 x1 S1 q v rv => ?_⟩
      obtain ⟨i, e, q⟩ := q m1 F1 H1 (.refl ..) S1
      unfold intO at e
      split at e
      · rename_i e2; cases e2
      · rename_i j e2
        cases e2
        cases e
        have rv : Dp X.K F1 v (.int j) := rv
        cases rv
        exact ⟨j, rfl, q⟩
      · cases e
theorem snd_slc {x : E} {lo hi : Oe} (hx : SndE M xr T n b B x) (h1 : ∀ e, lo = .some e → SndE M xr T n b B e) (h2 : ∀ e, hi = .some e → SndE M xr T n b B e) : SndE M xr T n b B (.slc x lo hi) := by
  intro X Wx sc p k h
  cases p <;> try (simp only [matE, Bool.false_eq_true] at h; done)
  rename_i pa ps pos
  cases ps <;> try (simp [matE] at h; done)
  rename_i pl ph pst pos2
  cases pst <;> try (simp [matE] at h; done)
  simp only [matE, Bool.and_eq_true] at h
  refine SE.of_plain ((pe_slice (sl_E (xr := xr) (B := B) (Wx := Wx)) (hx X Wx sc _ k h.1.1).pe (po_of k h1 h.1.2) (po_of k h2 h.2)).weak fun σ H Q q => ?_) (fun _ => rfl) rfl
  obtain ⟨m, F, env, hq, S, q⟩ := q
  simp only [evE] at q
  refine ⟨m, F, env, hq, S, q.bind.mono fun w h1 m1 F1 H1 x1 S1 q v rv => ⟨m1, F1, env, h1, S1, q.bind.mono fun l h2 m2 F2 H2 x2 S2 q => ?_⟩⟩
  split at q
  · rename_i i ei
    refine ⟨i, ei, m2, F2, env, h2, S2, q.bind.mono fun u h3 m3 F3 H3 x3 S3 q => ?_⟩
    split at q
    · rename_i j ej
      exact ⟨j, ej, m3, F3, env, h3, σ, w, S3, wr_mono (x2.trans x3).ml (x2.trans x3).sub rv, q⟩
    · exact q.elim
  · exact q.elim
end
end Ev

/-! EvS: set(xs) of a list of ints, and sorted of it. -/
namespace Ev
open PySem PySem.Spec PyProof.Rows L2
/-- an empty set, as the model makes it -/
def oS (w : World) : Obj := { cls := .type "set", dict := none, data := .set #[] 0 (.fresh 0 0 (!w.params.followText "set-order")) }
section
variable {P : Program} {w : World} {A : Around} {E : Value → Shared → Prop} {s : Shared}
theorem new_oS {h : Heap} : (h.push (oS w)).get? h.objs.size = some (oS w) := Heap.get?_push_size _ rfl
theorem code_oS (a : Value) {Q : Value → Shared → Prop} (h : Q (.ref s.heap.objs.size) { s with heap := s.heap.push (oS w) }) :
    codeAny (model P w) A (.call (.builtin "set.__new__") ⟨[.type "set", a], []⟩) (wants Q E) s := code_set_led1 a h
set_option maxHeartbeats 3200000 in
theorem set_list {l : Addr} {xs : Array Value} (ns : List Int) {Q : Value → Shared → Prop} (hh : A.handled = none) (hl : s.heap.IsList l xs) (hit : IntsAre xs.toList ns) (hb : ns.length + 1 < scanBound)
    (h : ∀ (h' : Heap) (tk c : Nat), SetR w h' s.heap.objs.size (fun j => decide (j ∈ ns)) c → c ≤ ns.length → (∀ b o, s.heap.get? b = some o → h'.get? b = some o) → Q (.ref s.heap.objs.size) { s with heap := h', toks := tk }) :
    wpAny (model P w) A (call (.type "set") [.ref l]) Q E s := by
  have sz : xs.size = ns.length := by simpa using IntsAre.length hit
  have ⟨_, _, _⟩ := F.called_set.mro
  have m1 := F.called_set.made
  have m2 := F.called_set.sub
  have m3 := F.called_set.notType
  have m4 := F.called_set.canCreate
  have m5 := F.typeCall_set_1 (.ref l)
  refine wpAny_call (codeAny_of_tree (show wpAny _ _ (callAny (.type "set") _) _ _ _ from ?_))
  refine wpAny_pure ⟨Code.quiet_builtin _ (by decide +kernel), codeAny_builtin F.entry_type_call ?_⟩
  have hw := Around.under_plain (A := A) (weight_type_call_type "set" [.ref l] []) rfl
  rw [hw]
  repeat (any_goals (first | assumption | wp_step))
  refine codeAny_mono (code_oS (.ref l) (E := E) (Q := fun x z => x = .ref s.heap.objs.size ∧ z = { s with heap := s.heap.push (oS w) }) ⟨rfl, rfl⟩) fun r z hr => ?_
  rcases r with e | (x | _ | _ | _) <;> first | exact hr | exact hr.elim | skip
  obtain ⟨rfl, rfl⟩ := hr
  have isT : Shared.TypeIs { s with heap := s.heap.push (oS w) } (.ref s.heap.objs.size) "set" := ⟨_, new_oS, rfl⟩
  have i1 := F.called_set.init.lookup
  have i2 := F.called_set.init.bind (.ref s.heap.objs.size)
  repeat (any_goals (first | assumption | wp_step))
  refine codeAny_mono (codeAny_call_builtin (R := wants (fun r z => r = .none ∧ ∃ h' tk c, z = { s with heap := h', toks := tk } ∧ SetR w h' s.heap.objs.size (fun j => decide (j ∈ ns)) c ∧ c ≤ ns.length ∧ (∀ b o, s.heap.get? b = some o → h'.get? b = some o)) E)
    F.called_set.init.plain F.entry_set_init (check_set_init_1 isT ?_)) fun r z hz => ?_
  · obtain ⟨⟨cl, di, da, sl⟩, ho, e1, k, e2⟩ := hl
    simp only at e1 e2
    subst e1 e2
    have ho' : (s.heap.push (oS w)).get? l = some { cls := .type "list", dict := di, data := .seq xs k, slots := sl } := Heap.get?_push_of_some _ ho
    have f1 := F.sub_list_set
    have f2 := F.sub_list_frozenset
    have f3 : (Value.type "list" == Value.type "dict") = false := by decide
    have hl' : (s.heap.push (oS w)).IsList l xs := ⟨_, ho', rfl, k, rfl⟩
    unfold Builtin.«set.__init__» noKeywords Builtin.Frozenset.updateFrom
    generalize hPI : pyIter = PI
    wp_walk
    subst hPI
    refine wpAny_pyIter_list hl' (wpAny_bind (wpAny_runValue ?_))
    have lt : l < s.heap.objs.size := Heap.lt_size ho
    have sz1 : (s.heap.push (oS w)).objs.size = s.heap.objs.size + 1 := Heap.size_push ..
    refine set_update_ints ((Walks.list (show A.in1.in1.in1.handled = none by simp [hh]) _ l (by rw [sz1]; exact Nat.ne_of_lt (Nat.lt_succ_of_lt lt)) xs).toS) s.heap.objs.size
      (by simp only [List.mem_cons, List.not_mem_nil, or_false, not_or]; rw [sz1]; exact ⟨Nat.ne_of_lt (Nat.lt_succ_self _), Nat.ne_of_gt lt⟩) ns sz hb (fun i v hv => ?_) (xs.size - 0) 0 _ (by omega) (Nat.zero_le _)
      ⟨⟨_, Heap.get?_push_size _ rfl, rfl, rfl⟩, hl'.push _⟩ ⟨0, Nat.le_refl 0, setR_new_at (Heap.get?_push_of_some _ new_oS)⟩ ?_
    · have hi : i < ns.length := by rw [← sz]; exact (Array.getElem?_eq_some_iff.mp hv).1
      obtain ⟨t, e⟩ := IntsAre.int_at hit i v (by rw [Array.getElem?_toList]; exact hv)
      exact ⟨ns[i], t, List.getElem?_eq_getElem hi, by rw [e, List.getD_eq_getElem?_getD, List.getElem?_eq_getElem hi] <;> rfl⟩
    · rintro ⟨h', g2, d', tk', os'⟩ c hm hc hS
      obtain rfl : g2 = s.gens := hm.gens
      obtain rfl : d' = s.drawn := hm.drawn
      obtain rfl : os' = s.os := hm.os
      refine show wpAny _ _ _ _ _ _ from wpAny_pure (show wpAny _ _ (ret Value.none) _ _ _ from ?_)
      rw [sz] at hc
      refine wpAny_pure ⟨rfl, h', tk', c, rfl, hS, hc, fun b o e => ?_⟩
      have b0 : b < s.heap.objs.size := Heap.lt_size e
      refine hm.heap b o ?_ (Heap.get?_push_of_some _ (Heap.get?_push_of_some _ e))
      simp only [List.mem_cons, List.not_mem_nil, or_false, not_or]
      rw [sz1]
      exact ⟨Nat.ne_of_lt b0, Nat.ne_of_lt (Nat.lt_succ_of_lt b0)⟩
  · rcases r with e | (x | _ | _ | _) <;> first | exact hz | exact hz.elim | skip
    obtain ⟨rfl, h', tk, c, rfl, k1, k2, k3⟩ := hz
    repeat (any_goals (first | assumption | wp_step))
    exact h _ _ _ k1 k2 k3
end
section
variable {X : Cx}
/-- set(xs) of ints -/
theorem cr_setL : CallR X (.type "set") (fun vs H Q => X.calm = true ∧ ∃ (a : Addr) (ns : List Int), vs = [V.ref a] ∧ SqL X.K H a (ns.map V.int) ∧ ns.length < 4000 ∧ ∀ c p, c ≤ ns.length → H p = none → Q (.ref p) (upd H p (SetO X.w p (fun j => decide (j ∈ ns)) c))) := by
  intro pins s σ H vs us Q I r h
  obtain ⟨hc, a, ns, rfl, sq, hn, q⟩ := h
  obtain ⟨u, rfl, ru⟩ := vals1 r
  cases ru
  obtain ⟨its, rv, pl, _⟩ := I.list sq
  refine set_list ns (I.ok.hd hc) pl.isList (by simpa using rv.ints) (by unfold scanBound; omega) fun h' tk c R hle keep => ?_
  refine ⟨.ref s.heap.objs.size, _, I.laid (t' := tk) (o := SetO X.w s.heap.objs.size (fun j => decide (j ∈ ns)) c) keep (Nat.le_refl _) (setO_new R), rfl, q c _ hle (I.hok.fresh (Nat.le_refl _))⟩
end
end Ev

/-! EvJ: calls, comprehensions; every expression (sndE). -/
namespace Ev
open PySem PySem.Spec L2
section
variable {M : ME} {xr : XRel} {T : List FD} {n b : Nat} {B : List Nat}

theorem bindA {K : PySem.W.Frag} {Wx : WX} {ra : Vars → Hq → R (List W)} {g : List W → Hq → R W} {σ : L2.St} {H : Hp} {Q : VK} {G : List V → Hp → Prop} (p : tE K xr B Wx (fun env h => (ra env h).bind g) σ H Q)
    (i : ∀ m F env h H ws vs, SR K B m F env h σ H → WRs K m F vs ws → PostE K xr B Wx m F env σ H (g ws h) Q → G vs H) : tA K xr B Wx ra σ H G := by
  obtain ⟨m, F, env, h, S, p⟩ := p
  exact ⟨m, F, env, h, S, p.bind.mono fun ws h1 m1 F1 H1 x1 S1 p vs rv => i m1 F1 env h1 H1 ws vs S1 rv p⟩

theorem sortI_eq {ns ms : List Int} (h : ms.Perm ns) (p : ms.Pairwise (· ≤ ·)) : ms = sortI ns := by
  refine List.Perm.eq_of_pairwise (le := (· ≤ ·)) (fun a b _ _ h1 h2 => Int.le_antisymm h1 h2) p ?_ (h.trans (List.mergeSort_perm _ _).symm)
  have := List.pairwise_mergeSort (le := fun (a b : Int) => decide (a ≤ b)) (fun a b c h1 h2 => by simp only [decide_eq_true_eq] at *; omega) (fun a b => by simp only [Bool.or_eq_true, decide_eq_true_eq]; omega) ns
  exact this.imp fun h => of_decide_eq_true h
section
variable {X : Cx} {Wx : WX}
theorem ints_now {m : List Addr} {F H : Hp} {h : Hq} {w : W} {v : V} {ns : List Int} (s : HR X.K B m F h H) (r : WR X.K m F v w) (e : (toD h w).bind listInts = some ns) : ∃ a, v = .ref a ∧ SqL X.K H a (ns.map V.int) := by
  rw [Option.bind_eq_some_iff] at e
  obtain ⟨d, e1, e2⟩ := e
  cases d <;> simp only [listInts, reduceCtorEq] at e2
  obtain ⟨a, vs, rfl, sq, dd⟩ := (now_of s r e1).list s.sub
  rw [ints_vs dd e2] at sq
  exact ⟨a, rfl, sq⟩
theorem dp_ints {F : Hp} : ∀ ns : List Int, DpAll X.K F (ns.map V.int) (ns.map .int)
  | [] => .nil
  | n :: ns => .cons (.int n) (dp_ints ns)
theorem cr_sumE (hc : X.calm = true) : CallR X (.builtin "sum") (rB X.K xr B Wx (evB .sum)) := by
  intro pins s σ H xs us Q I rs hq
  obtain ⟨m, F, env, h, σ', ws, S, r, p⟩ := hq
  match ws, r, p with
  | [w], r, p =>
    obtain ⟨v, rfl, r'⟩ := one_of r
    simp only [evB] at p
    obtain ⟨d, e, p⟩ := liftO_cases p
    rw [Option.map_eq_some_iff] at e
    obtain ⟨ns, e, rfl⟩ := e
    obtain ⟨a, rfl, sq⟩ := ints_now S.hr r' e
    exact cr_sum hc pins s σ H _ us Q I rs ⟨a, ns, rfl, sq, PostE.now p S (.int _)⟩
  | [], _, p => exact p.elim
  | _ :: _ :: _, _, p => exact p.elim
theorem maxI_ok : ∀ {ns : List Int} {m : Int}, maxI ns = some m → m ∈ ns ∧ ∀ y ∈ ns, y ≤ m
  | [], _, h => by cases h
  | n :: ns, m, h => by
    unfold maxI at h
    cases e : maxI ns with
    | none =>
      rw [e] at h
      cases h
      have : ns = [] := by
        cases ns with
        | nil => rfl
        | cons x l => unfold maxI at e; split at e <;> cases e
      subst this
      simp
    | some k =>
      rw [e] at h
      cases h
      obtain ⟨h1, h2⟩ := maxI_ok e
      split
      · refine ⟨by simp, fun y hy => ?_⟩
        rcases List.mem_cons.mp hy with e | hy
        · omega
        · have := h2 y hy; omega
      · refine ⟨by simp [h1], fun y hy => ?_⟩
        rcases List.mem_cons.mp hy with e | hy
        · omega
        · exact h2 y hy
theorem minI_ok : ∀ {ns : List Int} {m : Int}, minI ns = some m → m ∈ ns ∧ ∀ y ∈ ns, m ≤ y
  | [], _, h => by cases h
  | n :: ns, m, h => by
    unfold minI at h
    cases e : minI ns with
    | none =>
      rw [e] at h
      cases h
      have : ns = [] := by
        cases ns with
        | nil => rfl
        | cons x l => unfold minI at e; split at e <;> cases e
      subst this
      simp
    | some k =>
      rw [e] at h
      cases h
      obtain ⟨h1, h2⟩ := minI_ok e
      split
      · refine ⟨by simp, fun y hy => ?_⟩
        rcases List.mem_cons.mp hy with e | hy
        · omega
        · have := h2 y hy; omega
      · refine ⟨by simp [h1], fun y hy => ?_⟩
        rcases List.mem_cons.mp hy with e | hy
        · omega
        · exact h2 y hy
theorem bools_vs {F : Hp} : ∀ {ds : List PyData} {vs : List V} {ns : List Bool}, DpAll X.K F vs ds → boolsOf ds = some ns → vs = ns.map V.bl
  | [], _, _, h, e => by cases h; simp [boolsOf] at e; subst e; rfl
  | d :: ds, _, _, h, e => by
    cases h with
    | cons h1 h2 =>
      cases d <;> simp only [boolsOf, reduceCtorEq] at e
      rw [Option.map_eq_some_iff] at e
      obtain ⟨ns, e, rfl⟩ := e
      cases h1
      rw [bools_vs h2 e]
      rfl
theorem bools_now {m : List Addr} {F H : Hp} {h : Hq} {w : W} {v : V} {ns : List Bool} (s : HR X.K B m F h H) (r : WR X.K m F v w) (e : (toD h w).bind listBools = some ns) : ∃ a, v = .ref a ∧ SqL X.K H a (ns.map V.bl) := by
  rw [Option.bind_eq_some_iff] at e
  obtain ⟨d, e1, e2⟩ := e
  cases d <;> simp only [listBools, reduceCtorEq] at e2
  obtain ⟨a, vs, rfl, sq, dd⟩ := (now_of s r e1).list s.sub
  rw [bools_vs dd e2] at sq
  exact ⟨a, rfl, sq⟩
theorem cr_allE (hc : X.calm = true) : CallR X (.builtin "all") (rB X.K xr B Wx (evB .all)) := by
  intro pins s σ H xs us Q I rs hq
  obtain ⟨m, F, env, h, σ', ws, S, r, p⟩ := hq
  match ws, r, p with
  | [w], r, p =>
    obtain ⟨v, rfl, r'⟩ := one_of r
    simp only [evB] at p
    obtain ⟨d, e, p⟩ := liftO_cases p
    rw [Option.map_eq_some_iff] at e
    obtain ⟨ns, e, rfl⟩ := e
    obtain ⟨a, rfl, sq⟩ := bools_now S.hr r' e
    exact cr_all hc pins s σ H _ us Q I rs ⟨a, ns, rfl, sq, PostE.now p S (.bl _)⟩
  | [], _, p => exact p.elim
  | _ :: _ :: _, _, p => exact p.elim
theorem cr_anyE (hc : X.calm = true) : CallR X (.builtin "any") (rB X.K xr B Wx (evB .any)) := by
  intro pins s σ H xs us Q I rs hq
  obtain ⟨m, F, env, h, σ', ws, S, r, p⟩ := hq
  match ws, r, p with
  | [w], r, p =>
    obtain ⟨v, rfl, r'⟩ := one_of r
    simp only [evB] at p
    obtain ⟨d, e, p⟩ := liftO_cases p
    rw [Option.map_eq_some_iff] at e
    obtain ⟨ns, e, rfl⟩ := e
    obtain ⟨a, rfl, sq⟩ := bools_now S.hr r' e
    exact cr_any hc pins s σ H _ us Q I rs ⟨a, ns, rfl, sq, PostE.now p S (.bl _)⟩
  | [], _, p => exact p.elim
  | _ :: _ :: _, _, p => exact p.elim
theorem two_of {m : List Addr} {F : Hp} {vs : List V} {w w2 : W} (r : WRs X.K m F vs [w, w2]) : ∃ v v2, vs = [v, v2] ∧ WR X.K m F v w ∧ WR X.K m F v2 w2 := by
  cases r with
  | cons r1 r2 =>
    cases r2 with
    | cons r2 r3 =>
      cases r3
      exact ⟨_, _, rfl, r1, r2⟩
theorem cr_maxE (hc : X.calm = true) : CallR X (.builtin "max") (rB X.K xr B Wx (evB .max)) := by
  intro pins s σ H xs us Q I rs hq
  obtain ⟨m, F, env, h, σ', ws, S, r, p⟩ := hq
  match ws, r, p with
  | [w], r, p =>
    obtain ⟨v, rfl, r'⟩ := one_of r
    simp only [evB] at p
    obtain ⟨d, e, p⟩ := liftO_cases p
    rw [Option.map_eq_some_iff] at e
    obtain ⟨x, e, rfl⟩ := e
    rw [Option.bind_eq_some_iff] at e
    obtain ⟨ns, e, ex⟩ := e
    obtain ⟨h1, h2⟩ := maxI_ok ex
    obtain ⟨a, rfl, sq⟩ := ints_now S.hr r' e
    refine cr_max hc pins s σ H _ us Q I rs ⟨a, ns, rfl, sq, List.length_pos_of_mem h1, fun z hz hle => ?_⟩
    have : z = x := by have := h2 z hz; have := hle x h1; omega
    subst this
    exact PostE.now p S (.int _)
  | [], _, p => exact p.elim
  | [w, w2], r, p =>
    cases w with
    | l _ => exact (show False by simpa [evB, PostG] using p).elim
    | d d =>
      cases d <;> try exact (show False by simpa [evB, PostG] using p).elim
      rename_i i
      cases w2 with
      | l _ => exact (show False by simpa [evB, PostG] using p).elim
      | d e =>
        cases e <;> try exact (show False by simpa [evB, PostG] using p).elim
        rename_i j
        obtain ⟨v, v2, rfl, r1, r2⟩ := two_of r
        have r1 : Dp X.K F v (.int i) := r1
        have r2 : Dp X.K F v2 (.int j) := r2
        cases r1; cases r2
        exact call_max2 hc pins s σ H _ us Q I rs ⟨i, j, rfl, PostE.now p S (.int _)⟩
  | _ :: _ :: _ :: _, _, p => exact (show False by simpa [evB, PostG] using p).elim
theorem cr_minE (hc : X.calm = true) : CallR X (.builtin "min") (rB X.K xr B Wx (evB .min)) := by
  intro pins s σ H xs us Q I rs hq
  obtain ⟨m, F, env, h, σ', ws, S, r, p⟩ := hq
  match ws, r, p with
  | [w], r, p =>
    obtain ⟨v, rfl, r'⟩ := one_of r
    simp only [evB] at p
    obtain ⟨d, e, p⟩ := liftO_cases p
    rw [Option.map_eq_some_iff] at e
    obtain ⟨x, e, rfl⟩ := e
    rw [Option.bind_eq_some_iff] at e
    obtain ⟨ns, e, ex⟩ := e
    obtain ⟨h1, h2⟩ := minI_ok ex
    obtain ⟨a, rfl, sq⟩ := ints_now S.hr r' e
    refine cr_min hc pins s σ H _ us Q I rs ⟨a, ns, rfl, sq, List.length_pos_of_mem h1, fun z hz hle => ?_⟩
    have : z = x := by have := h2 z hz; have := hle x h1; omega
    subst this
    exact PostE.now p S (.int _)
  | [], _, p => exact p.elim
  | [w, w2], r, p =>
    cases w with
    | l _ => exact (show False by simpa [evB, PostG] using p).elim
    | d d =>
      cases d <;> try exact (show False by simpa [evB, PostG] using p).elim
      rename_i i
      cases w2 with
      | l _ => exact (show False by simpa [evB, PostG] using p).elim
      | d e =>
        cases e <;> try exact (show False by simpa [evB, PostG] using p).elim
        rename_i j
        obtain ⟨v, v2, rfl, r1, r2⟩ := two_of r
        have r1 : Dp X.K F v (.int i) := r1
        have r2 : Dp X.K F v2 (.int j) := r2
        cases r1; cases r2
        exact call_min2 hc pins s σ H _ us Q I rs ⟨i, j, rfl, PostE.now p S (.int _)⟩
  | _ :: _ :: _ :: _, _, p => exact (show False by simpa [evB, PostG] using p).elim
theorem cr_sortedE : CallR X (.builtin "sorted") (rB X.K xr B Wx (evB .sorted)) := by
  intro pins s σ H xs us Q I rs hq
  obtain ⟨m, F, env, h, σ', ws, S, r, p⟩ := hq
  match ws, r, p with
  | [w], r, p =>
    obtain ⟨v, rfl, r'⟩ := one_of r
    simp only [evB] at p
    obtain ⟨d, e, p⟩ := liftO_cases p
    rw [Option.map_eq_some_iff] at e
    obtain ⟨ns, e, rfl⟩ := e
    obtain ⟨a, rfl, sq⟩ := ints_now S.hr r' e
    refine cr_sortedI pins s σ H _ us Q I rs ⟨a, ns, rfl, sq, fun ms q hp hs hn => ?_⟩
    rw [sortI_eq hp hs]
    exact PostE.newF p S hn (.lst sq_new (dp_ints _))
  | [], _, p => exact p.elim
  | _ :: _ :: _, _, p => exact p.elim
end
theorem snd_blt {f : Bt} {es : Es} (hes : SndEs M xr T n b B es) : SndE M xr T n b B (.blt f es) := by
  intro X Wx sc p k h
  cases p <;> try (simp only [matE, Bool.false_eq_true] at h; done)
  rename_i pf ps kw pos
  cases pf <;> try (simp [matE] at h; done)
  rename_i x p2
  cases ps <;> try (simp [matE] at h; done)
  rename_i p ps
  cases kw <;> try (simp [matE] at h; done)
  simp only [matE, Bool.and_eq_true, decide_eq_true_eq] at h
  obtain ⟨⟨rfl, h1⟩, h2⟩ := h
  have hg := gl_of k.hs h1
  have hm := bt_gl (f := f) k
  have ha := hes X Wx sc _ k h2
  have hs := star1 (env := X.env) (ps := ps) (star_head h2)
  have hpl : (backTo pos (starEach ps X.env)).any (·.1) = false := by
    cases es with
    | nil => simp [matEs] at h2
    | cons e es => simp only [matEs, Bool.and_eq_true] at h2; exact (stars_of h2.2 pos).1
  have rd : ∀ {σ H Q}, tE X.K xr B Wx (evE b (callN T n) (.blt f es)) σ H Q → tCB (rB X.K xr B Wx (evB f)) (tA X.K xr B Wx (evEs b (callN T n) es)) σ H Q := fun {σ H Q} q => by
    simp only [tE, evE] at q
    exact bindA q fun m F env hq H ws vs S rv q => ⟨m, F, env, hq, σ, ws, S, rv, q⟩
  have bad : (∀ ws h, evB f ws h = .bad) → ∀ {σ H Q}, tE X.K xr B Wx (evE b (callN T n) (.blt f es)) σ H Q → tCB (fun _ _ _ => False) (tA X.K xr B Wx (evEs b (callN T n) es)) σ H Q := fun hb {σ H Q} q => by
    simp only [tE, evE] at q
    exact bindA q fun m F env hq H ws vs S rv q => by rw [hb] at q; exact q.elim
  have fB : ∀ {id : String} {v : Value}, (∀ ws h, evB f ws h = .bad) → bootBuiltins f.nm = some (.builtin id) → f.nm ≠ "__name__" → (f.nm == ("__debug__" : Str)) = false → SE X xr B Wx (evE b (callN T n) (.blt f es)) (.Call (.Name f.nm p2) (p :: ps) [] pos) := fun {id v} hb hv hn hd =>
    SE.of_plain ((pe_callB (id := id) (r := fun _ _ _ => False) (fun _ _ _ _ _ _ _ _ _ z => z.elim) hg hm hv ha hn hd hs hpl).weak fun σ H Q q => bad hb q) (fun _ => rfl) rfl
  have fT : ∀ {id : String}, (∀ ws h, evB f ws h = .bad) → bootBuiltins f.nm = some (.type id) → f.nm ≠ "__name__" → (f.nm == ("__debug__" : Str)) = false → SE X xr B Wx (evE b (callN T n) (.blt f es)) (.Call (.Name f.nm p2) (p :: ps) [] pos) := fun {id} hb hv hn hd =>
    SE.of_plain ((pe_callTy (T := id) (r := fun _ _ _ => False) (fun _ _ _ _ _ _ _ _ _ z => z.elim) hg hm hv ha hn hd hs hpl).weak fun σ H Q q => bad hb q) (fun _ => rfl) rfl
  cases f
  case len => exact SE.of_plain ((pe_callB cr_len hg hm (by decide +kernel) ha (by decide +kernel) (by decide +kernel) hs hpl).weak fun σ H Q q => rd q) (fun _ => rfl) rfl
  case tuple => exact SE.of_plain ((pe_callTy cr_tuple hg hm (by decide +kernel) ha (by decide +kernel) (by decide +kernel) hs hpl).weak fun σ H Q q => rd q) (fun _ => rfl) rfl
  case list => exact SE.of_plain ((pe_callTy cr_list hg hm (by decide +kernel) ha (by decide +kernel) (by decide +kernel) hs hpl).weak fun σ H Q q => rd q) (fun _ => rfl) rfl
  case int => exact SE.of_plain ((pe_callTy cr_int hg hm (by decide +kernel) ha (by decide +kernel) (by decide +kernel) hs hpl).weak fun σ H Q q => rd q) (fun _ => rfl) rfl
  case sum => exact SE.of_plain ((pe_callB (cr_sumE k.calm) hg hm (by decide +kernel) ha (by decide +kernel) (by decide +kernel) hs hpl).weak fun σ H Q q => rd q) (fun _ => rfl) rfl
  case sorted => exact SE.of_plain ((pe_callB cr_sortedE hg hm (by decide +kernel) ha (by decide +kernel) (by decide +kernel) hs hpl).weak fun σ H Q q => rd q) (fun _ => rfl) rfl
  case str => exact fT (id := "str") (by intro ws h; rcases ws with _ | ⟨w, _ | ⟨w2, ws⟩⟩ <;> simp [evB]) (by decide +kernel) (by decide +kernel) (by decide +kernel)
  case max => exact SE.of_plain ((pe_callB (cr_maxE k.calm) hg hm (by decide +kernel) ha (by decide +kernel) (by decide +kernel) hs hpl).weak fun σ H Q q => rd q) (fun _ => rfl) rfl
  case min => exact SE.of_plain ((pe_callB (cr_minE k.calm) hg hm (by decide +kernel) ha (by decide +kernel) (by decide +kernel) hs hpl).weak fun σ H Q q => rd q) (fun _ => rfl) rfl
  case all => exact SE.of_plain ((pe_callB (cr_allE k.calm) hg hm (by decide +kernel) ha (by decide +kernel) (by decide +kernel) hs hpl).weak fun σ H Q q => rd q) (fun _ => rfl) rfl
  case any => exact SE.of_plain ((pe_callB (cr_anyE k.calm) hg hm (by decide +kernel) ha (by decide +kernel) (by decide +kernel) hs hpl).weak fun σ H Q q => rd q) (fun _ => rfl) rfl
  case repr => exact fB (id := "repr") (v := .none) (by intro ws h; rcases ws with _ | ⟨w, _ | ⟨w2, ws⟩⟩ <;> simp [evB]) (by decide +kernel) (by decide +kernel) (by decide +kernel)
  case max2 => exact fB (id := "max") (v := .none) (by intro ws h; rcases ws with _ | ⟨w, _ | ⟨w2, ws⟩⟩ <;> simp [evB]) (by decide +kernel) (by decide +kernel) (by decide +kernel)
  case min2 => exact fB (id := "min") (v := .none) (by intro ws h; rcases ws with _ | ⟨w, _ | ⟨w2, ws⟩⟩ <;> simp [evB]) (by decide +kernel) (by decide +kernel) (by decide +kernel)
theorem snd_sset {x : E} (hx : SndE M xr T n b B x) : SndE M xr T n b B (.sset x) := by
  intro X Wx sc p k h
  cases p <;> try (simp only [matE, Bool.false_eq_true] at h; done)
  rename_i pf ps kw pos
  cases pf <;> try (simp [matE] at h; done)
  rename_i n1 pos3
  rcases ps with _ | ⟨p, _ | ⟨p2, ps⟩⟩ <;> try (simp [matE] at h; done)
  cases p <;> try (simp [matE] at h; done)
  rename_i pf ps2 kw2 pos2
  cases pf <;> try (simp [matE] at h; done)
  rename_i n2 pos4
  rcases ps2 with _ | ⟨p, _ | ⟨p2, ps⟩⟩ <;> try (simp [matE] at h; done)
  cases kw <;> try (simp [matE] at h; done)
  cases kw2 <;> try (simp [matE] at h; done)
  simp only [matE, Bool.and_eq_true, decide_eq_true_eq] at h
  obtain ⟨⟨⟨⟨⟨rfl, rfl⟩, g1⟩, g2⟩, hn⟩, hm⟩ := h
  have a := (hx X Wx sc p k hm).pe
  have inner := pe_callTy (p := pos4) (pos := pos2) cr_setL (gl_of k.hs g2) (k.bl _ (by decide +kernel)) (by decide +kernel) (pa_cons a pa_nil (star1 hn)) (by decide +kernel) (by decide +kernel) (star1 hn) rfl
  refine SE.of_plain ((pe_callB (p := pos3) (pos := pos) (cr_sortedSet k.calm) (gl_of k.hs g1) (k.bl _ (by decide +kernel)) (by decide +kernel) (pa_cons inner pa_nil rfl) (by decide +kernel) (by decide +kernel) rfl rfl).weak fun σ H Q q => ?_) (fun _ => rfl) rfl
  simp only [tE, evE] at q
  refine bind1 (ra := evE b (callN T n) x) q fun m F env hq H w v S r q => ?_
  split at q
  · rename_i ns e
    split at q
    · rename_i hl
      obtain ⟨a, rfl, sq⟩ := ints_now S.hr r e
      refine ⟨k.calm, a, ns, rfl, sq, by omega, fun c p hc hp => ?_⟩
      have fp := S.hr.freeF hp
      have mp := S.hr.freeM hp
      refine ⟨p, _, c, rfl, upd_same, by omega, fun ms q2 asc mem len hn => ?_⟩
      have e2 : ms = sortU ns := asc_eq asc (asc_sortU ns) fun j => by rw [mem j, mem_sortU]; simp
      rw [e2]
      have hpq : q2 ≠ p := fun z => by rw [z, upd_same] at hn; cases hn
      have hq0 : H q2 = none := by rw [upd_ne hpq] at hn; exact hn
      have S1 := S.other (u := SetO X.w p (fun j => decide (j ∈ ns)) c) fp mp
      obtain ⟨S2, x2⟩ := S1.newF (u := .lst ((sortU ns).map V.int)) hn
      refine q _ _ _ ⟨.refl _, x2.sub, fun b o eb hb => ?_, fun _ a b => absurd a b, fun b hb hf hh => ?_⟩ S2 _ (.lst sq_new (dp_ints _))
      · rw [upd_ne (ne_of_none eb hq0), upd_ne (ne_of_none eb hp)]; exact eb
      · have : b ≠ q2 := fun z => hh (z ▸ hq0)
        rw [upd_ne this]; exact hf
    · exact q.elim
  · exact q.elim
theorem snd_mth {f : Mt} {o : E} {es : Es} (ho : SndE M xr T n b B o) (hes : SndEs M xr T n b B es) : SndE M xr T n b B (.mth f o es) := by
  intro X Wx sc p k h
  cases p <;> try (simp only [matE, Bool.false_eq_true] at h; done)
  rename_i pf ps kw pos
  cases pf <;> try (simp [matE] at h; done)
  rename_i po x ap
  cases ps <;> try (simp [matE] at h; done)
  rename_i p ps
  cases kw <;> try (simp [matE] at h; done)
  simp only [matE, Bool.and_eq_true, decide_eq_true_eq] at h
  obtain ⟨⟨⟨⟨⟨⟨hf, rfl⟩, h0⟩, hl⟩, hlen⟩, h1⟩, h2⟩ := h
  have a := (ho X Wx sc po k h1).pe
  have ha := hes X Wx sc _ k h2
  have hs := star1 (env := X.env) (ps := ps) (star_head h2)
  have sts := stars_of (env := X.env) h2 pos
  have hpl : (backTo pos (starEach ps X.env)).any (·.1) = false := by
    cases es with
    | nil => simp [matEs] at h2
    | cons e es => simp only [matEs, Bool.and_eq_true] at h2; exact (stars_of h2.2 pos).1
  have hbase : attributeBase po f.nm X.env (eval po X.env) = eval po X.env := by
    unfold attributeBase
    cases po <;> try rfl
    rename_i g as kws ps
    cases g <;> try rfl
    cases as <;> try rfl
    cases kws <;> try rfl
    simp [notCall0] at h0
  have hfew : ((backTo pos (starEach (p :: ps) X.env)).all (fun x => !x.1) && (backToKw pos (keywordEach [] X.env)).all (fun x => x.1.isSome) && decide ((p :: ps).length + ([] : List Keyword).length + (if ([] : List Keyword).isEmpty then 0 else 1) < 30)) = true := by
    rw [sts.2, Bool.true_and, Bool.and_eq_true]
    exact ⟨rfl, decide_eq_true (by simp; omega)⟩
  cases f
  case count =>
    refine SE.of_plain ((pe_bm PySem.F.plainAttrs_list PySem.F.slot_list_count PySem.F.type_list_count (mt_cnt (xr := xr) (B := B) (Wx := Wx) k.hu) a ha hbase hfew hl hs hpl).weak fun σ H Q q => ?_) (fun _ => rfl) rfl
    obtain ⟨m, F, env, hq, S, q⟩ := q
    simp only [evE] at q
    refine ⟨m, F, env, hq, S, q.bind.mono fun w h1 m1 F1 H1 x1 S1 q v rv => ?_⟩
    split at q
    · rename_i hr
      obtain ⟨ds, e⟩ : ∃ ds, toD h1 w = some (.list ds) := by
        unfold recv at hr
        split at hr
        · rename_i e; exact ⟨_, e⟩
        · cases hr
      obtain ⟨c, vs, rfl, sq, _⟩ := (now_of S1.hr rv e).list S1.hr.sub
      refine ⟨.inl ⟨rfl, vs, sq⟩, m1, F1, env, h1, S1, q.bind.mono fun ws h2 m2 F2 H2 x2 S2 q us ru => ?_⟩
      exact ⟨m2, F2, env, h2, σ, w, ws, S2, wr_mono x2.ml x2.sub rv, ru, q⟩
    · exact q.elim
  all_goals (cases hf; done)

theorem snd_call {f : Nat} {es : Es} (hb : b ∈ B) (hB : ∀ c ∈ B, c ≤ b) (hes : SndEs M xr T n b B es) : SndE M xr T n b B (.call f es) := by
  intro X Wx sc p k h
  cases p <;> try (simp only [matE, Bool.false_eq_true] at h; done)
  rename_i pf ps kw pos
  cases pf <;> try (simp [matE] at h; done)
  rename_i x p2
  cases ps <;> try (simp [matE] at h; done)
  rename_i p ps
  cases kw <;> try (simp [matE] at h; done)
  simp only [matE, Bool.and_eq_true] at h
  obtain ⟨⟨⟨h0, h1⟩, h2⟩, h3⟩ := h
  obtain ⟨a, fd, pr, hm, hk, hbd, hF⟩ := k.fns f x (of_decide_eq_true h0)
  have ha := hes X Wx sc _ k h3
  have hs := star1 (env := X.env) (ps := ps) (star_head h3)
  have hpl : (backTo pos (starEach ps X.env)).any (·.1) = false := by
    cases es with
    | nil => simp [matEs] at h3
    | cons e es => simp only [matEs, Bool.and_eq_true] at h3; exact (stars_of h3.2 pos).1
  refine SE.of_plain ((pe_callS (p := p2) (pos := pos) hF k.room (gl_of k.hs h1) hm hk hbd (fun σ => passAt k.tk σ) ha (plainN_of h2).1 hs hpl).weak fun σ H Q q => ?_) (fun _ => rfl) rfl
  simp only [tE, evE] at q
  refine bindA q fun m F env hq H ws vs S rv q => ?_
  cases e : callN T n b f ws hq with
  | bad => rw [e] at q; exact q.elim
  | ok w h' =>
    rw [e] at q
    have hfd : ∃ fd, T[f]? = some fd ∧ ws.length = fd.np := by
      cases n with
      | zero => simp [callN] at e
      | succ n =>
        simp only [callN] at e
        split at e
        · rename_i fd hfd
          refine ⟨fd, hfd, ?_⟩
          unfold runF at e
          split at e
          · assumption
          · cases e
        · cases e
    obtain ⟨fd, hfd, hl⟩ := hfd
    refine ⟨fd, hfd, by rw [rv.length]; exact hl, B, b, m, F, ws, hq, hb, hB, S.hr, rv, ?_⟩
    rw [e]
    exact fun v m' F' H' x r rw' => q m' F' H' x (S.ext r x) v rw'
  | ex c ds h' =>
    rw [e] at q
    have hfd : ∃ fd, T[f]? = some fd ∧ ws.length = fd.np := by
      cases n with
      | zero => simp [callN] at e
      | succ n =>
        simp only [callN] at e
        split at e
        · rename_i fd hfd
          refine ⟨fd, hfd, ?_⟩
          unfold runF at e
          split at e
          · assumption
          · cases e
        · cases e
    obtain ⟨fd, hfd, hl⟩ := hfd
    refine ⟨fd, hfd, by rw [rv.length]; exact hl, B, b, m, F, ws, hq, hb, hB, S.hr, rv, ?_⟩
    rw [e]
    exact fun m' F' H' cls dx x r y => q m' F' H' cls dx x r y
end
end Ev

/-! EvX: range as an argument, isinstance, a module's whole number. -/
namespace Ev
open PySem PySem.Spec L2
section
variable {M : ME} {xr : XRel} {T : List FD} {n b : Nat} {B : List Nat}
theorem snd_bad : SndE M xr T n b B .bad := by
  intro X Wx sc p k h
  have hz : ∀ {σ H Q}, tE X.K xr B Wx (evE b (callN T n) .bad) σ H Q → False := fun {σ H Q} q => by
    obtain ⟨m, F, env, hq, S, q⟩ := q
    simp only [evE] at q
    exact q
  refine ⟨⟨fun pins s σ H Q I q => (hz q).elim⟩, fun _ => ⟨fun pins s σ H Q I q => ?_⟩, fun _ => ⟨fun w pins s σ H Q I q => ?_⟩⟩
  · obtain ⟨m, F, env, hq, S, q⟩ := q
    simp only [evE] at q
    exact q.elim
  · obtain ⟨m, F, env, hq, S, q⟩ := q
    simp only [evE] at q
    exact q.elim
theorem snd_glb (i : Int) : SndE M xr T n b B (.glb i) := by
  intro X Wx sc p k h
  cases p <;> simp only [matE, Bool.false_eq_true] at h
  rename_i x pos
  simp only [Bool.and_eq_true, List.contains_iff_mem] at h
  obtain ⟨t, hm⟩ := k.gls x i h.1.1
  refine SE.of_plain ((pe_glob (v := .int i) (gl_of k.hs h.1.2) hm ⟨t, rfl⟩ (plainN_of h.2).1).weak fun σ H Q q => ?_) (fun _ => rfl) rfl
  obtain ⟨m, F, env, hq, S, q⟩ := q
  simp only [evE] at q
  exact PostE.now q S (.int _)
theorem rgV_eq (n : Int) : rgV 0 n = ((List.range n.toNat).map fun i => ((i : Nat) : Int)).map V.int := by
  unfold rgV
  rw [List.map_map]
  simp
theorem dps_range {K : PySem.W.Frag} {F : Hp} (n : Int) : DpAll K F (rgV 0 n) ((List.range n.toNat).map fun i => PyData.int (i : Nat)) := by
  rw [rgV_eq]
  generalize List.range n.toNat = l
  induction l with
  | nil => exact .nil
  | cons x l ih => exact .cons (.int _) ih
theorem rg_RgOk {n : Int} (h : rgOk 0 n = true) : RgOk 0 n := by
  unfold rgOk at h
  have := of_decide_eq_true h
  unfold RgOk
  omega
theorem rgOf_ok {sc : Scope} {q pa : Expr} (h : rgOf sc q = some pa) : ∃ p pos, q = .Call (.Name "range" p) [pa] [] pos ∧ isGl sc "range" = true ∧ notStar pa = true := by
  unfold rgOf at h
  split at h
  · split at h
    · rename_i h'
      obtain ⟨rfl, h2, h3⟩ := h'
      cases h
      exact ⟨_, _, rfl, h2, h3⟩
    · cases h
  · cases h
theorem snd_trg {t : Bool} {a : E} (ha : SndE M xr T n b B a) : SndE M xr T n b B (.trg t a) := by
  intro X Wx sc p k h
  cases p <;> try (simp only [matE, Bool.false_eq_true] at h; done)
  rename_i pf ps kw pos
  cases pf <;> try (simp [matE] at h; done)
  rename_i x p2
  rcases ps with _ | ⟨q, _ | ⟨p2, ps⟩⟩ <;> try (simp [matE] at h; done)
  cases kw <;> try (simp [matE] at h; done)
  simp only [matE, Bool.and_eq_true, decide_eq_true_eq] at h
  obtain ⟨⟨⟨rfl, h1⟩, h2⟩, h3⟩ := h
  split at h3
  · rename_i pa eq
    obtain ⟨p3, pos3, rfl, g, ns⟩ := rgOf_ok eq
    have inner := prg_1 (p := p3) (pos := pos3) (gl_of k.hs g) (k.bl _ (by decide +kernel)) (ha X Wx sc pa k h3).pe (star1 ns)
    have rd : ∀ {σ H Q}, tE X.K xr B Wx (evE b (callN T n) (.trg t a)) σ H Q → tRg1 (tE X.K xr B Wx (evE b (callN T n) a)) σ H fun i j H1 => RgOk i j ∧ ∀ q, H1 q = none → Q (.ref q) (upd H1 q (if t then .tup (rgV i j) else .lst (rgV i j))) := fun {σ H Q} q => by
      simp only [tE, evE] at q
      refine bind1 (ra := evE b (callN T n) a) q fun m F env hq H w v S r q => ?_
      split at q
      · rename_i nn
        split at q
        · rename_i hr
          have r : Dp X.K F v (.int nn) := r
          cases r
          refine ⟨nn, rfl, rg_RgOk hr, fun p hp => ?_⟩
          cases t
          · exact PostE.newF q S hp (.lst sq_new (dps_mono (HpLe.upd (S.hr.freeF hp)) _ _ (dps_range nn)))
          · exact PostE.newF q S hp (.tup st_new (dps_mono (HpLe.upd (S.hr.freeF hp)) _ _ (dps_range nn)))
        · exact q.elim
      · exact q.elim
    cases t
    · exact SE.of_plain ((pe_listRg (p := p2) (pos := pos) k.calm (gl_of k.hs h1) (k.bl _ (by decide +kernel)) inner (star1 h2)).weak fun σ H Q q => rd q) (fun _ => rfl) rfl
    · exact SE.of_plain ((pe_tupRg (p := p2) (pos := pos) k.calm (gl_of k.hs h1) (k.bl _ (by decide +kernel)) inner (star1 h2)).weak fun σ H Q q => rd q) (fun _ => rfl) rfl
  · cases h3

theorem now_reads {X : Cx} {pins : List (Addr × Obj)} {s : Shared} {σ : L2.St} {m : List Addr} {F H : Hp} {h : Hq} (I : Inv X pins σ H s) (S : HR X.K B m F h H) {w : W} {v : V} {u : Value} {d : PyData} (r : WR X.K m F v w) (e : toD h w = some d) (rv : RelV v u) : ∃ as, Reads s.heap u d as :=
  Dp.reads I d v u ((now_of S r e).dp S.sub) rv
def Ity.tn : Ity → String
  | .int => "int" | .bool => "bool" | .str => "str" | .tuple => "tuple"
theorem cr_isa {X : Cx} {Wx : WX} (c : Ity) : CallR X (.builtin "isinstance") (fun xs H Q => ∃ m F env h σ w v x, SR X.K B m F env h σ H ∧ WR X.K m F v w ∧ xs = [v, .ty c.tn] ∧ toD h w = some x ∧ PostE X.K xr B Wx m F env σ H (.ok (.d (.bool (isaD c x))) h) Q) := by
  intro pins s σ H xs us Q I rs hq
  obtain ⟨m, F, env, h, σ', w, v, x, S, r, rfl, e, p⟩ := hq
  obtain ⟨u1, u2, rfl, r1, r2⟩ := vals2 rs
  obtain ⟨as, rd⟩ := now_reads I S.hr r e r1
  have q := PostE.now p S (.bl _)
  cases c
  · cases (show u2 = Value.type "int" from r2)
    exact PySem.W.isinstance_int_data rd fun tk _ => ⟨.bl _, H, I.tok tk, (by cases x <;> rfl), q⟩
  · cases (show u2 = Value.type "bool" from r2)
    exact PySem.W.isinstance_bool_data rd fun tk _ => ⟨.bl _, H, I.tok tk, (by cases x <;> rfl), q⟩
  · cases (show u2 = Value.type "str" from r2)
    exact PySem.W.isinstance_str_data rd fun tk _ => ⟨.bl _, H, I.tok tk, (by cases x <;> rfl), q⟩
  · cases (show u2 = Value.type "tuple" from r2)
    exact PySem.W.isinstance_tuple_data rd fun tk _ => ⟨.bl _, H, I.tok tk, (by cases x <;> rfl), q⟩
theorem snd_isa {c : Ity} {a : E} (ha : SndE M xr T n b B a) : SndE M xr T n b B (.isa c a) := by
  intro X Wx sc p k h
  cases p <;> try (simp only [matE, Bool.false_eq_true] at h; done)
  rename_i pf ps kw pos
  cases pf <;> try (simp [matE] at h; done)
  rename_i x p2
  rcases ps with _ | ⟨pa, _ | ⟨q, _ | ⟨p3, ps⟩⟩⟩ <;> try (simp [matE] at h; done)
  cases kw <;> try (simp [matE] at h; done)
  simp only [matE, Bool.and_eq_true, decide_eq_true_eq] at h
  obtain ⟨⟨⟨⟨⟨rfl, h1⟩, h2⟩, h3⟩, h4⟩, h5⟩ := h
  cases q <;> simp only [isTy, Bool.false_eq_true, Bool.and_eq_true, decide_eq_true_eq] at h4
  rename_i y p3
  obtain ⟨rfl, g⟩ := h4
  have pt : PE X (.Name c.nm p3) (tC (.ty c.tn)) := by
    cases c
    · exact pe_bltn (gl_of k.hs g) (k.bl _ (by decide +kernel)) (u := .type "int") (by decide +kernel) rfl (by decide +kernel) (by decide +kernel)
    · exact pe_bltn (gl_of k.hs g) (k.bl _ (by decide +kernel)) (u := .type "bool") (by decide +kernel) rfl (by decide +kernel) (by decide +kernel)
    · exact pe_bltn (gl_of k.hs g) (k.bl _ (by decide +kernel)) (u := .type "str") (by decide +kernel) rfl (by decide +kernel) (by decide +kernel)
    · exact pe_bltn (gl_of k.hs g) (k.bl _ (by decide +kernel)) (u := .type "tuple") (by decide +kernel) rfl (by decide +kernel) (by decide +kernel)
  refine SE.of_plain ((pe_callB (p := p2) (pos := pos) (cr_isa (xr := xr) (B := B) (Wx := Wx) c) (gl_of k.hs h1) (k.bl _ (by decide +kernel)) (by decide +kernel) (pa_cons (ha X Wx sc pa k h5).pe (pa_cons pt pa_nil (star1 h3)) (star1 h2)) (by decide +kernel) (by decide +kernel) (star1 h2) (by rw [star1 h3]; rfl)).weak fun σ H Q q => ?_) (fun _ => rfl) rfl
  simp only [tE, evE] at q
  refine bind1 (ra := evE b (callN T n) a) q fun m F env hq H w v S r q => ?_
  split at q
  · rename_i d e
    exact ⟨m, F, env, hq, σ, w, v, d, S, r, rfl, e, q⟩
  · exact q.elim
/-! ### {..}.get(k, d) -/
theorem pe_intC {X : Cx} {v : Expr} {i : Int} (h : intC v = some i) : PE X v (tC (.int i)) := by
  unfold intC at h
  split at h
  · cases h
    exact pe_int
  · cases h
    exact (pe_un un_neg pe_int).weak fun σ H Q q => ⟨_, rfl, q⟩
  · cases h
def kvT (kvs : List (Str × Int)) : List (TE × TE) := kvs.map fun p => (tC (.str p.1), tC (.int p.2))
theorem pps_kv {X : Cx} {pos : Pos} : ∀ {kvs : List (Str × Int)} {ks : List (Option Expr)} {vs : List Expr}, matKV kvs ks vs = true → PPs X pos ks vs (kvT kvs) ∧ ks.all (·.isSome) = true ∧ ks.length = vs.length ∧ ks.length = kvs.length
  | [], [], [], _ => ⟨pps_nil, rfl, rfl, rfl⟩
  | [], [], _ :: _, h => by simp [matKV] at h
  | [], _ :: _, _, h => by simp [matKV] at h
  | _ :: _, [], _, h => by simp [matKV] at h
  | _ :: _, _ :: _, [], h => by simp [matKV] at h
  | (s, i) :: r, k :: ks, v :: vs, h => by
    simp only [matKV, Bool.and_eq_true, decide_eq_true_eq] at h
    obtain ⟨⟨h1, h2⟩, h3⟩ := h
    obtain ⟨a, b, c, d⟩ := pps_kv (X := X) (pos := pos) h3
    unfold keyIsC at h1
    split at h1
    · simp only [decide_eq_true_eq] at h1
      subst h1
      exact ⟨pps_cons pe_str (pe_intC h2) a, by simp [b], by simp [c], by simp [d]⟩
    · cases h1
def kvV (kvs : List (Str × Int)) : List (Key × V) := kvs.map fun p => (Sum.inr p.1, V.int p.2)
theorem tPairs_kv {σ : L2.St} {H : Hp} : ∀ {kvs : List (Str × Int)} {Q : List (V × V) → Hp → Prop}, Q ((kvV kvs).map fun kv => (kV kv.1, kv.2)) H → tPairs (kvT kvs) σ H Q
  | [], _, h => h
  | p :: r, Q, h => tPairs_kv (kvs := r) (Q := fun ps H3 => Q ((V.str p.1, V.int p.2) :: ps) H3) h
theorem look_merge (s : Str) : ∀ (kvs : List (Str × Int)) (acc : List (Key × V)) (o : Option Int), valV acc (Sum.inr s) = o.map V.int → valV (mergeK acc (kvV kvs)) (Sum.inr s) = (kvs.foldl (fun acc p => if s = p.1 then some p.2 else acc) o).map V.int
  | [], acc, o, h => h
  | p :: r, acc, o, h => by
    show valV (mergeK (putK acc (Sum.inr p.1) (V.int p.2)) (kvV r)) (Sum.inr s) = _
    rw [List.foldl_cons]
    refine look_merge s r _ _ ?_
    rw [valV_put]
    by_cases e : s = p.1
    · subst e; simp
    · have : ¬ (Sum.inr s : Key) = Sum.inr p.1 := fun z => e (Sum.inr.inj z)
      simp only [if_neg this, if_neg e]
      exact h
theorem PostG.shift {α : Type} {K : PySem.W.Frag} {Wx : WX} {m m1 : List Addr} {F F1 H H1 : Hp} {env : Vars} {σ : L2.St} {r : R α} {P : α → Hq → List Addr → Hp → Hp → Prop} (p : PostG K xr B Wx m F env σ H r P) (x : Ext m F H m1 F1 H1) : PostG K xr B Wx m1 F1 env σ H1 r P := by
  cases r with
  | ok a h => exact fun m2 F2 H2 e => p m2 F2 H2 (x.trans e)
  | ex c ds h => exact fun m2 F2 H2 cls dx e => p m2 F2 H2 cls dx (x.trans e)
  | bad => exact p
theorem snd_dlg {kvs : List (Str × Int)} {e1 e2 : E} (h1 : SndE M xr T n b B e1) (h2 : SndE M xr T n b B e2) : SndE M xr T n b B (.dlg kvs e1 e2) := by
  intro X Wx sc p k h
  cases p <;> try (simp only [matE, Bool.false_eq_true] at h; done)
  rename_i pf ps kw cp
  cases pf <;> try (simp [matE] at h; done)
  rename_i po x ap
  rcases ps with _ | ⟨pk, _ | ⟨pd, _ | ⟨p3, ps⟩⟩⟩ <;> try (simp [matE] at h; done)
  cases kw <;> try (simp [matE] at h; done)
  simp only [matE, Bool.and_eq_true, decide_eq_true_eq] at h
  obtain ⟨⟨⟨⟨⟨⟨rfl, hl⟩, n1⟩, n2⟩, hd⟩, m1⟩, m2⟩ := h
  cases po <;> simp only [dictOf, Bool.false_eq_true] at hd
  rename_i ks vs dp
  simp only [Bool.and_eq_true, decide_eq_true_eq] at hd
  obtain ⟨⟨hk, hlen⟩, h15⟩ := hd
  obtain ⟨pp, hall, hlv, _⟩ := pps_kv (X := X) (pos := dp) hk
  have hs1 : starEach [pk, pd] X.env = [(false, eval pk X.env), (false, eval pd X.env)] := by rw [star1 n1, star1 n2]; rfl
  have disp := pe_disp pp hall hlv (by intro z; rw [z] at hlen; simp at hlen) h15
  have m : M2 X (.Dict ks vs dp) "get" ap pk pd cp := ⟨rfl, by rw [hs1]; rfl, hl, by rw [hs1]; rfl⟩
  have hu : X.A.units + 1 < cLine := by have := k.hu; omega
  refine SE.of_plain ((pe_dget2 hu disp (h1 X Wx sc pk k m1).pe (h2 X Wx sc pd k m2).pe m).weak fun σ H Q q => ?_) (fun _ => rfl) rfl
  intro p hp
  refine tPairs_kv ⟨upd_same, kvV kvs, rfl, ?_, p, rfl, .inl ⟨_, .inl upd_same⟩, ?_⟩
  · obtain ⟨_, _, _, e⟩ := pps_kv (X := X) (pos := dp) hk
    unfold kvV
    rw [List.length_map, ← e]
    exact h15
  obtain ⟨m0, F, env, hq, S, q⟩ := q
  simp only [evE] at q
  have uu : upd (upd H p (.dK [])) p (.dK (mergeK [] (kvV kvs))) = upd H p (.dK (mergeK [] (kvV kvs))) := by
    funext a
    unfold upd
    split <;> rfl
  rw [uu]
  have fp := S.hr.freeF hp
  have mp := S.hr.freeM hp
  have S1 : SR X.K B m0 F env hq σ (upd H p (.dK (mergeK [] (kvV kvs)))) := ⟨S.hr.other fp mp, S.el, S.var⟩
  have x0 : Ext m0 F H m0 F (upd H p (.dK (mergeK [] (kvV kvs)))) := ⟨.refl _, .refl _, fun a o e _ => by
    rw [upd_ne (fun z => by rw [z, hp] at e; cases e)]; exact e, fun a h g => absurd h g, fun _ _ h _ => h⟩
  have q := PostG.shift q x0
  refine ⟨m0, F, env, hq, S1, q.bind.mono fun w1 hq1 m1 F1 H1 x1 S1 qa v1 r1 => ⟨m1, F1, env, hq1, S1, qa.bind.mono fun w2 hq2 m2 F2 H2 x2 S2 q v2 r2 => ?_⟩⟩
  have hd1 : H1 p = some (.dK (mergeK [] (kvV kvs))) := x1.frm p _ upd_same mp
  have mp1 : p ∉ m1 := fun z => by
    have := x1.new p z mp
    rw [upd_same] at this
    cases this
  have hd2 : H2 p = some (.dK (mergeK [] (kvV kvs))) := x2.frm p _ hd1 mp1
  cases w1 with
  | l _ => exact q.elim
  | d dd =>
    cases dd
    case str s =>
      have r1 : Dp X.K F1 v1 (.str s) := r1
      cases r1
      refine ⟨_, DGet.k (k := Sum.inr s) hd2, ?_⟩
      rw [look_merge s kvs [] none rfl]
      simp only [dlook] at q
      cases hh : kvs.foldl (fun acc p => if s = p.1 then some p.2 else acc) none with
      | some i => rw [hh] at q; exact PostE.now q S2 (.int _)
      | none => rw [hh] at q; exact PostE.now q S2 r2
    all_goals exact q.elim
end
end Ev

/-! EvK: comprehensions; every expression (sndE). -/
namespace Ev
open PySem PySem.Spec L2
section
variable {M : ME} {xr : XRel} {T : List FD} {n b : Nat} {B : List Nat}
def SndIt (M : ME) (xr : XRel) (T : List FD) (n b : Nat) (B : List Nat) (it : It) : Prop := ∀ (X : Cx) (Wx : WX) (sc : Scope) (tg p : Expr), XOk X Wx M xr T n sc → matIt M sc it p = true → PI X tg p (tI X.K xr B Wx (evIt b (callN T n) it))
theorem tI_of {K : PySem.W.Frag} {Wx : WX} {ra : Vars → Hq → R W} {g : W → Hq → R (List W)} {σ : L2.St} {H : Hp} {G : L2.It → Hp → Prop} {Q' : VK} (p : tI K xr B Wx (fun env h => (ra env h).bind g) σ H G)
    (i : ∀ m F env h H w v, SR K B m F env h σ H → WR K m F v w → PostG K xr B Wx m F env σ H (g w h) (fun ws h' m' F' H' => ∀ J, ItOk K m' F' J ws → ws.length ≤ sizeLine → G J H') → Q' v H) : tE K xr B Wx ra σ H Q' := by
  obtain ⟨m, F, env, h, S, p⟩ := p
  exact ⟨m, F, env, h, S, p.bind.mono fun w h1 m1 F1 H1 x1 S1 p v rv => i m1 F1 env h1 H1 w v S1 rv p⟩
theorem snd_it_e {a : E} (ha : SndE M xr T n b B a) : SndIt M xr T n b B (.e a) := by
  intro X Wx sc tg p k h
  simp only [matIt] at h
  refine (pi_seq (ha X Wx sc p k h).pe).weak fun σ H G q => ?_
  simp only [tI, evIt] at q
  refine tI_of (ra := evE b (callN T n) a) q fun m F env hq H w v S r q => ?_
  cases w with
  | l _ => exact q.elim
  | d x =>
    have r : Dp X.K F v x := r
    cases r <;> try exact q.elim
    case lst a vs ds sq dd =>
      refine ⟨a, rfl, .inl ⟨⟨vs, S.hr.sub.sql sq⟩, fun len => ?_⟩⟩
      have hl := len vs (S.hr.sub.sql sq)
      exact q m F H (.refl ..) S _ (it_list sq dd) (by rw [List.length_map, ← dd.length]; exact hl)
    case tup a vs ds sq dd =>
      refine ⟨a, rfl, .inr ⟨⟨vs, S.hr.sub.sqt sq⟩, fun len => ?_⟩⟩
      have hl := len vs (S.hr.sub.sqt sq)
      exact q m F H (.refl ..) S _ (it_tup sq dd) (by rw [List.length_map, ← dd.length]; exact hl)
theorem rg_ok {lo hi : Int} (h : rgOk lo hi = true) : -(2 ^ 61) ≤ lo ∧ lo < 2 ^ 61 ∧ -(2 ^ 61) ≤ hi ∧ hi < 2 ^ 61 ∧ hi - lo ≤ 16777216 := by unfold rgOk at h; exact of_decide_eq_true h
theorem up_len {lo hi : Int} (h : rgOk lo hi = true) : (rangeUp lo hi).length ≤ sizeLine := by
  have := rg_ok h
  rw [rangeUp, List.length_map, List.length_range, PySem.sizeLine_eq]
  omega
theorem dn_len {lo hi : Int} (h : rgOk lo hi = true) : (rangeDn hi lo).length ≤ sizeLine := by
  have := rg_ok h
  rw [rangeDn, List.length_map, List.length_range, PySem.sizeLine_eq]
  omega
theorem snd_rg1 {a : E} (ha : SndE M xr T n b B a) : SndIt M xr T n b B (.rg1 a) := by
  intro X Wx sc tg p k h
  cases p <;> try (simp only [matIt, Bool.false_eq_true] at h; done)
  rename_i pf ps kw pos
  cases pf <;> try (simp [matIt] at h; done)
  rename_i x p2
  rcases ps with _ | ⟨p, _ | ⟨p3, ps⟩⟩ <;> try (simp [matIt] at h; done)
  cases kw <;> try (simp [matIt] at h; done)
  simp only [matIt, Bool.and_eq_true, decide_eq_true_eq] at h
  obtain ⟨⟨⟨rfl, h1⟩, h2⟩, h3⟩ := h
  have a1 := (ha X Wx sc p k h3).pe
  refine (pi_range1 (p := p2) (pos := pos) (gl_of k.hs h1) (k.bl _ (by decide +kernel)) (pa_cons a1 pa_nil (star1 h2)) (by rw [star1 h2]; rfl)).weak fun σ H G q => ?_
  simp only [tI, evIt] at q
  refine tI_of (ra := evE b (callN T n) a) q fun m F env hq H w v S r q => ?_
  split at q
  · rename_i j
    split at q
    · rename_i hr
      have r : Dp X.K F v (.int j) := r
      cases r
      have hj := rg_ok hr
      refine ⟨j, rfl, by omega, by omega, ?_⟩
      have e : j.toNat = (j - 0).toNat := by rw [Int.sub_zero]
      rw [e]
      exact q m F H (.refl ..) S _ it_up (up_len hr)
    · exact q.elim
  · exact q.elim
theorem tI_of2 {K : PySem.W.Frag} {Wx : WX} {ra rb : Vars → Hq → R W} {g : W → W → Hq → R (List W)} {σ : L2.St} {H : Hp} {G : L2.It → Hp → Prop} {Q' : List V → Hp → Prop} (p : tI K xr B Wx (fun env h => (ra env h).bind fun w h => (rb env h).bind fun v h => g w v h) σ H G)
    (i : ∀ m F env h H w v w2 v2, SR K B m F env h σ H → WR K m F v w → WR K m F v2 w2 → PostG K xr B Wx m F env σ H (g w w2 h) (fun ws h' m' F' H' => ∀ J, ItOk K m' F' J ws → ws.length ≤ sizeLine → G J H') → Q' [v, v2] H) : tCons (tE K xr B Wx ra) (tCons (tE K xr B Wx rb) tNil) σ H Q' := by
  obtain ⟨m, F, env, h, S, p⟩ := p
  refine ⟨m, F, env, h, S, p.bind.mono fun w h1 m1 F1 H1 x1 S1 p v rv => ⟨m1, F1, env, h1, S1, p.bind.mono fun w2 h2 m2 F2 H2 x2 S2 p v2 rv2 => ?_⟩⟩
  exact i m2 F2 env h2 H2 w v w2 v2 S2 (wr_mono x2.ml x2.sub rv) rv2 p
theorem snd_rg2 {a c : E} (ha : SndE M xr T n b B a) (hc : SndE M xr T n b B c) : SndIt M xr T n b B (.rg2 a c) := by
  intro X Wx sc tg p k h
  cases p <;> try (simp only [matIt, Bool.false_eq_true] at h; done)
  rename_i pf ps kw pos
  cases pf <;> try (simp [matIt] at h; done)
  rename_i x p2
  rcases ps with _ | ⟨p, _ | ⟨p3, _ | ⟨p4, ps⟩⟩⟩ <;> try (simp [matIt] at h; done)
  cases kw <;> try (simp [matIt] at h; done)
  simp only [matIt, Bool.and_eq_true, decide_eq_true_eq] at h
  obtain ⟨⟨⟨⟨⟨rfl, h1⟩, h2⟩, h2'⟩, h3⟩, h4⟩ := h
  have a1 := (ha X Wx sc p k h3).pe
  have a2 := (hc X Wx sc p3 k h4).pe
  refine (pi_range2 (p := p2) (pos := pos) (gl_of k.hs h1) (k.bl _ (by decide +kernel)) (pa_cons a1 (pa_cons a2 pa_nil (star1 h2')) (star1 h2)) (by rw [star1 h2, star1 h2']; rfl) (by rw [star1 h2']; rfl)).weak fun σ H G q => ?_
  simp only [tI, evIt] at q
  refine tI_of2 (ra := evE b (callN T n) a) (rb := evE b (callN T n) c) q fun m F env hq H w v w2 v2 S r r2 q => ?_
  split at q
  · rename_i i j
    split at q
    · rename_i hr
      have r : Dp X.K F v (.int i) := r
      have r2 : Dp X.K F v2 (.int j) := r2
      cases r
      cases r2
      have hj := rg_ok hr
      exact ⟨i, j, rfl, ⟨by omega, by omega, by omega, by omega⟩, q m F H (.refl ..) S _ it_up (up_len hr)⟩
    · exact q.elim
  · exact q.elim
theorem snd_rgd {a c : E} (ha : SndE M xr T n b B a) (hc : SndE M xr T n b B c) : SndIt M xr T n b B (.rgd a c) := by
  intro X Wx sc tg p k h
  cases p <;> try (simp only [matIt, Bool.false_eq_true] at h; done)
  rename_i pf ps kw pos
  cases pf <;> try (simp [matIt] at h; done)
  rename_i x p2
  rcases ps with _ | ⟨p, _ | ⟨p3, _ | ⟨p4, _ | ⟨p5, ps⟩⟩⟩⟩ <;> try (simp [matIt] at h; done)
  cases kw <;> try (simp [matIt] at h; done)
  simp only [matIt, Bool.and_eq_true, decide_eq_true_eq] at h
  obtain ⟨⟨⟨⟨⟨⟨rfl, h0⟩, h1⟩, h2⟩, h2'⟩, h3⟩, h4⟩ := h
  obtain ⟨kk, pos4, pos3, rfl⟩ : ∃ kk pos4 pos3, p4 = .UnaryOp .USub (.Constant (.int 1) kk pos4) pos3 := by
    cases p4 <;> try (simp [isM1] at h0; done)
    rename_i o pc pos3
    cases o <;> try (simp [isM1] at h0; done)
    cases pc <;> try (simp [isM1] at h0; done)
    rename_i cc kk pos4
    cases cc <;> try (simp [isM1] at h0; done)
    simp only [isM1, decide_eq_true_eq] at h0
    subst h0
    exact ⟨_, _, _, rfl⟩
  have a1 := (ha X Wx sc p k h3).pe
  have a2 := (hc X Wx sc p3 k h4).pe
  have a3 : PE X (.UnaryOp .USub (.Constant (.int 1) kk pos4) pos3) (tUn (rU fun i => .int (-i)) (tC (.int 1))) := pe_un un_neg pe_int
  refine (pi_range3 (p := p2) (pos := pos) (gl_of k.hs h1) (k.bl _ (by decide +kernel)) (pa_cons a1 (pa_cons a2 (pa_cons a3 pa_nil rfl) (star1 h2')) (star1 h2)) (star1 h2) (by rw [star1 h2']; rfl)).weak fun σ H G q => ?_
  simp only [tI, evIt] at q
  obtain ⟨m, F, env, h, S, p⟩ := q
  refine ⟨m, F, env, h, S, p.bind.mono fun w h1 m1 F1 H1 x1 S1 p1 v rv => ⟨m1, F1, env, h1, S1, p1.bind.mono fun w2 h2 m2 F2 H2 x2 S2 p2 v2 rv2 => ?_⟩⟩
  clear p p1
  refine ⟨1, rfl, ?_⟩
  split at p2
  · rename_i i j
    split at p2
    · rename_i hr
      have r : Dp X.K F1 v (.int i) := rv
      have r2 : Dp X.K F2 v2 (.int j) := rv2
      cases r
      cases r2
      have hj := rg_ok hr
      exact ⟨i, j, -1, (i - j).toNat, rfl, RgC.neg (by omega) (by omega) (by omega) (by omega), p2 m2 F2 H2 (.refl ..) S2 _ it_dn (dn_len hr)⟩
    · exact p2.elim
  · exact p2.elim

theorem own_map {N : List Str} {sto : Str → Bool} : ∀ {t : List Nat} {ps : List Expr}, matTs N sto t ps = true → (ownOf N t).map (·.2) = t
  | [], _, _ => rfl
  | i :: is, [], h => by simp [matTs] at h
  | i :: is, p :: ps, h => by
    cases p <;> simp only [matTs, Bool.false_eq_true] at h
    simp only [Bool.and_eq_true, isAt, decide_eq_true_eq] at h
    obtain ⟨⟨h1, _⟩, h3⟩ := h
    have ih := own_map h3
    unfold ownOf at ih ⊢
    rw [List.filterMap_cons, h1]
    simp only [Option.map_some, List.map_cons, ih]
theorem own_mapT {N : List Str} {sto : Str → Bool} {t : List Nat} {u : Bool} {tg : Expr} (h : matT N sto t u tg = true) : (ownOf N t).map (·.2) = t := by
  unfold matT at h
  split at h
  · rename_i i x pos
    simp only [Bool.and_eq_true, isAt, decide_eq_true_eq] at h
    simp [ownOf, h.1]
  · exact own_map h
  · cases h
theorem blk_ok {X : Cx} {Wx : WX} {sc scope : Scope} (k : XOk X Wx M xr T n sc) (s : Shared) (H : Hp) (C : Addr) (cl : List (Str × Addr)) (fp : List Addr) : XOk (X.blk s H scope (compEnvC scope cl C X.env) fp) WF M xr T n (relS scope sc) :=
  ⟨k.calm, k.nd, k.hN, (by show relS scope X.env.scope = _; rw [k.hs]), takes0, k.hu, k.room, k.bl, k.gls, k.fns⟩
theorem blk_sto {X : Cx} {scope : Scope} {x : Str} (s : Shared) (H : Hp) (C : Addr) (cl : List (Str × Addr)) (fp : List Addr) (h : isSto scope x = true) :
    Loc (X.blk s H scope (compEnvC scope cl C X.env) fp).env.scope x ∧ ((X.blk s H scope (compEnvC scope cl C X.env) fp).fn x = true ∨ (X.blk s H scope (compEnvC scope cl C X.env) fp).env.scope.names.lookup x = some .local) := by
  rcases sto_of h with h | h
  · have q : (relS scope X.env.scope).names.lookup x = some .local := lookup_relS_keep (by decide) h
    exact ⟨.inl q, .inr q⟩
  · have q : (relS scope X.env.scope).names.lookup x = some .cell := lookup_relS_keep (by decide) h
    exact ⟨.inr q, .inl (by show (scope.names.lookup x == some NameKind.cell) = true; rw [h]; rfl)⟩
theorem noset {it : Expr} {env : Env} (h : notSet it = true) : ∀ x, foldedSetIterable it env x = pure x := by
  intro x
  cases it <;> first | rfl | (simp [notSet] at h)
/-- all that a comprehension needs -/
structure LcOk (X : Cx) (xr : XRel) (B : List Nat) (Wx : WX) (T : List FD) (n b : Nat) (t : List Nat) (u : Bool) (it : It) (c : Oe) (e : E) (pe tg pi : Expr) (ifs : List Expr) (scope : Scope) (own : List (Str × Nat)) : Prop where
  hi : PI X tg pi (tI X.K xr B Wx (evIt b (callN T n) it))
  ok : BlkOk X.N X.env.scope scope own
  hg : ∀ (s : Shared) (H : Hp) (C : Addr) (cl : List (Str × Addr)) (fp : List Addr), PG (X.blk s H scope (compEnvC scope cl C X.env) fp) tg (gT X.K t u)
  ht : ∀ (s : Shared) (H : Hp) (C : Addr) (cl : List (Str × Addr)) (fp : List Addr), PTs (X.blk s H scope (compEnvC scope cl C X.env) fp) ifs (tO X.K xr B WF (evOe b (callN T n) c))
  he : ∀ (s : Shared) (H : Hp) (C : Addr) (cl : List (Str × Addr)) (fp : List Addr), PE (X.blk s H scope (compEnvC scope cl C X.env) fp) pe (tE X.K xr B WF (evE b (callN T n) e))
  hs : ∀ x, foldedSetIterable pi X.env x = pure x
  hm : own.map (·.2) = t
  hne : t ≠ []
theorem lc_ok {X : Cx} {Wx : WX} {sc : Scope} {kk : Nat} {t : List Nat} {u : Bool} {it : It} {c : Oe} {e : E} {pe tg pi : Expr} {ifs : List Expr} {scope : Scope} {a : Int} {pos : Pos} (k : XOk X Wx M xr T n sc) (hit : SndIt M xr T n b B it) (hc : ∀ e, c = .some e → SndE M xr T n b B e) (he : SndE M xr T n b B e)
    (h : matE M sc (.lc kk t u it c e) (.ListComp pe [⟨tg, pi, ifs, a⟩] scope pos) = true) : a = 0 ∧ LcOk X xr B Wx T n b t u it c e pe tg pi ifs scope (ownOf M.N t) := by
  simp only [matE, Bool.and_eq_true, decide_eq_true_eq, Bool.not_eq_true'] at h
  obtain ⟨⟨⟨⟨⟨⟨⟨h0, hn⟩, h1⟩, h2⟩, h3⟩, h4⟩, h5⟩, h6⟩ := h
  refine ⟨h0, hit X Wx sc tg pi k h4, ?_, fun s H C cl fp => ?_, fun s H C cl fp => ?_, fun s H C cl fp => ?_, noset h1, own_mapT h3, ?_⟩
  · rw [k.hN, k.hs]; exact blkOk_by h2
  · exact pg_T (X := X.blk s H scope (compEnvC scope cl C X.env) fp) k.calm k.hN k.nd (fun x hx => blk_sto s H C cl fp hx) h3
  · have kb := blk_ok (scope := scope) k s H C cl fp
    cases c with
    | none =>
      cases ifs with
      | cons _ _ => simp [matIfs] at h5
      | nil =>
        refine PTs.weak pts_nil fun σ H Q q => ?_
        obtain ⟨m, F, env, hq, S, q⟩ := q
        obtain ⟨j, ej, q⟩ := q m F H (.refl ..) S
        cases ej
        exact q
    | some ce =>
      rcases ifs with _ | ⟨p, _ | ⟨p2, ps⟩⟩ <;> try (simp [matIfs] at h5; done)
      simp only [matIfs, Bool.and_eq_true] at h5
      refine (pts_one ((hc ce rfl _ _ _ p kb h5.1).pt h5.2)).weak fun σ H Q q => ?_
      obtain ⟨m, F, env, hq, S, q⟩ := q
      simp only [evOe] at q
      refine ⟨m, F, env, hq, S, q.bind.mono fun w h1 m1 F1 H1 x1 S1 q => ?_⟩
      obtain ⟨j, ej, q2⟩ := q m1 F1 H1 (.refl ..) S1
      clear q
      unfold boolO at ej
      split at ej
      · rename_i e2; cases e2
      · rename_i e2; cases e2; cases ej; exact ⟨_, rfl, q2⟩
      · cases ej
  · exact (he _ _ _ pe (blk_ok (scope := scope) k s H C cl fp) h6).pe
  · intro z; rw [z] at hn; simp at hn
theorem lc_ev {K : PySem.W.Frag} {Wx : WX} {kk : Nat} {t : List Nat} {u : Bool} {it : It} {c : Oe} {e : E} {σ : L2.St} {H : Hp} {Q : VK} (hne : t ≠ []) (q : tE K xr B Wx (evE b (callN T n) (.lc kk t u it c e)) σ H Q) :
    tLc (tI K xr B Wx (evIt b (callN T n) it)) (gT K t u) (tO K xr B WF (evOe b (callN T n) c)) (tE K xr B WF (evE b (callN T n) e)) t σ H Q := by
  refine lc_read (k := kk) hne ?_
  simp only [tE, evE] at q
  exact q
theorem snd_lc {kk : Nat} {t : List Nat} {u : Bool} {it : It} {c : Oe} {e : E} (hit : SndIt M xr T n b B it) (hc : ∀ e, c = .some e → SndE M xr T n b B e) (he : SndE M xr T n b B e) : SndE M xr T n b B (.lc kk t u it c e) := by
  intro X Wx sc p k h
  cases p <;> try (simp only [matE, Bool.false_eq_true] at h; done)
  rename_i pe gs scope pos
  rcases gs with _ | ⟨⟨tg, pi, ifs, a⟩, _ | ⟨g2, gs⟩⟩ <;> try (simp [matE] at h; done)
  obtain ⟨rfl, L⟩ := lc_ok k hit hc he h
  refine SE.of_plain ((pe_lc k.calm k.nd L.hi L.ok L.hg L.ht L.he L.hs).weak fun σ H Q q => ?_) (fun _ => rfl) rfl
  rw [L.hm]
  exact lc_ev L.hne q

mutual
theorem sndE (hb : b ∈ B) (hB : ∀ c ∈ B, c ≤ b) : ∀ e : E, SndE M xr T n b B e
  | .bad => snd_bad
  | .glb i => snd_glb i
  | .trg t a => snd_trg (sndE hb hB a)
  | .isa c a => snd_isa (sndE hb hB a)
  | .dlg kvs k d => snd_dlg (sndE hb hB k) (sndE hb hB d)
  | .var i => snd_var i
  | .lit c => snd_lit c
  | .tup es => snd_tup (sndEs hb hB es)
  | .lst es => snd_lst (sndEs hb hB es)
  | .lstM es => snd_lstM (sndEs hb hB es)
  | .lsw es => snd_lsw (sndEs hb hB es)
  | .bin o x y => snd_bin (sndE hb hB x) (sndE hb hB y)
  | .neg x => snd_neg (sndE hb hB x)
  | .nt x => snd_nt (sndE hb hB x)
  | .cmp o x y => snd_cmp (sndE hb hB x) (sndE hb hB y)
  | .isN x => snd_isN (sndE hb hB x)
  | .notN x => snd_notN (sndE hb hB x)
  | .cmp2 o p x y z => snd_cmp2 (sndE hb hB x) (sndE hb hB y) (sndE hb hB z)
  | .one x => snd_one (sndE hb hB x)
  | .and x y => snd_and (sndE hb hB x) (sndE hb hB y)
  | .or x y => snd_or (sndE hb hB x) (sndE hb hB y)
  | .ife c x y => snd_ife (sndE hb hB c) (sndE hb hB x) (sndE hb hB y)
  | .idx x i => snd_idx (sndE hb hB x) (sndE hb hB i)
  | .slc x lo hi => snd_slc (sndE hb hB x) (sndOe hb hB lo) (sndOe hb hB hi)
  | .blt f es => snd_blt (sndEs hb hB es)
  | .mth f o es => snd_mth (sndE hb hB o) (sndEs hb hB es)
  | .call f es => snd_call hb hB (sndEs hb hB es)
  | .sset x => snd_sset (sndE hb hB x)
  | .lc k t u it c e => snd_lc (sndIt hb hB it) (sndOe hb hB c) (sndE hb hB e)
theorem sndEs (hb : b ∈ B) (hB : ∀ c ∈ B, c ≤ b) : ∀ es : Es, SndEs M xr T n b B es
  | .nil => snd_nil
  | .cons e es => snd_cons (sndE hb hB e) (sndEs hb hB es)
theorem sndOe (hb : b ∈ B) (hB : ∀ c ∈ B, c ≤ b) : ∀ (o : Oe) (e : E), o = .some e → SndE M xr T n b B e
  | .none, _, h => by cases h
  | .some x, e, h => by cases h; exact sndE hb hB x
theorem sndIt (hb : b ∈ B) (hB : ∀ c ∈ B, c ≤ b) : ∀ it : It, SndIt M xr T n b B it
  | .e a => snd_it_e (sndE hb hB a)
  | .rg1 a => snd_rg1 (sndE hb hB a)
  | .rg2 a c => snd_rg2 (sndE hb hB a) (sndE hb hB c)
  | .rgd a c => snd_rgd (sndE hb hB a) (sndE hb hB c)
end
end
end Ev

/-! EvL: statements (matS, sndS). -/
namespace Ev
open PySem PySem.Spec L2

def notLC : Expr → Bool
  | .ListComp _ _ _ _ => false
  | .SetComp _ _ _ _ => false
  | .DictComp _ _ _ _ _ => false
  | _ => true
def isName : Expr → Bool
  | .Name _ _ => true
  | _ => false
def notTup : Expr → Bool
  | .Tuple _ _ _ => false
  | _ => true
/-- a comprehension that is stored in its own way -/
def swaps (sc : Scope) (tg p : Expr) : Bool := match p, tg with
  | .ListComp _ _ scope pos, .Name y py => (match sc.kind with | .function => true | _ => false) && decide (sc.names.lookup y = some .local) && (py.line == pos.line) && !(scope.names.any fun (n, k) => n == y && (k == .local || k == .cell))
  | _, _ => false
def swaps0 (sc : Scope) (tg p : Expr) : Bool := match p, tg with
  | .ListComp _ _ scope pos, .Name y py => (sc.kind == .function && sc.names.lookup y == some .local && py.line == pos.line && !(scope.names.any fun (n, k) => n == y && (k == .local || k == .cell)))
  | _, _ => false

def subOf : Expr → Option (Expr × Expr)
  | .Subscript po pi _ => some (po, pi)
  | _ => none
def appOf : Expr → Option (Expr × Str × Pos × Expr × Pos)
  | .Call (.Attribute po x ap) [p] [] cp => some (po, x, ap, p, cp)
  | _ => none
mutual
def matS (M : ME) (kp : List Nat) (sc : Scope) : S → Stmt → Bool
  | .bad, _ => true
  | .asg t u e, .Assign [tg] p _ => matT M.N (isSto sc) t u tg && t.all (fun i => !kp.contains i) && matE M sc e p && (isName tg || notTup p) && (swaps sc tg p || notLC p || !swaps0 sc tg p)
  | .set o i e, .Assign [tg] p _ => match subOf tg with
    | some (po, pi) => notSlice pi && matE M sc o po && matE M sc i pi && matE M sc e p
    | none => false
  | .app o e, .Expr q _ => match appOf q with
    | some (po, x, ap, p, cp) => decide (x = "append") && notCall0 po && (ap.endLine == cp.line) && notStar p && matE M sc o po && matE M sc e p
    | none => false
  | .expr e, .Expr p _ => notLC p && matE M sc e p
  | .ret e, .Return (some p) _ => matE M sc e p
  | .retN, .Return none _ => true
  | .ifs c a b, .If p pa pb _ => notIf p && matE M sc c p && matSs M kp sc a pa && matSs M kp sc b pb
  | .forS t u it s, .For tg p ps [] _ => matT M.N (isSto sc) t u tg && t.all (fun i => !kp.contains i) && notSet p && matIt M sc it p && matSs M kp sc s ps
  | .whl _ c s, .While p ps [] _ => notIf p && matE M sc c p && matSs M kp sc s ps
  | .pass, .Pass _ => true
  | .brk, .Break _ => true
  | .cnt, .Continue _ => true
  | _, _ => false
def matSs (M : ME) (kp : List Nat) (sc : Scope) : Ss → List Stmt → Bool
  | .nil, [] => true
  | .cons (.frz i) ss, ps => matSs M kp sc ss ps
  | .cons s ss, p :: ps => matS M kp sc s p && matSs M kp sc ss ps
  | _, _ => false
end

def Kp (kp : List Nat) (σ σ' : L2.St) : Prop := σ'.length = σ.length ∧ ∀ i ∈ kp, σ'[i]? = σ[i]?
theorem Kp.refl (kp : List Nat) (σ : L2.St) : Kp kp σ σ := ⟨rfl, fun _ _ => rfl⟩
theorem Kp.trans {kp : List Nat} {a b c : L2.St} (h : Kp kp a b) (g : Kp kp b c) : Kp kp a c := ⟨g.1.trans h.1, fun i hi => (g.2 i hi).trans (h.2 i hi)⟩
section
variable {K : PySem.W.Frag} {xr : XRel}
def PostS (K : PySem.W.Frag) (xr : XRel) (B : List Nat) (Wx : WX) (kp : List Nat) (m : List Addr) (F H : Hp) (σ : L2.St) (r : R Fl) (D : Ends) : Prop := match r with
  | .ok (.nx env') h' => ∀ m' F' H' σ', Ext m F H m' F' H' → SR K B m' F' env' h' σ' H' → Kp kp σ σ' → D.nx σ' H'
  | .ok (.bk env') h' => ∀ m' F' H' σ', Ext m F H m' F' H' → SR K B m' F' env' h' σ' H' → Kp kp σ σ' → D.bk σ' H'
  | .ok (.ct env') h' => ∀ m' F' H' σ', Ext m F H m' F' H' → SR K B m' F' env' h' σ' H' → Kp kp σ σ' → D.ct σ' H'
  | .ok (.rt w) h' => ∀ m' F' H' v, Ext m F H m' F' H' → HR K B m' F' h' H' → WR K m' F' v w → D.rt v H'
  | .ex c ds h' => ∀ m' F' H' cls dx σ', Ext m F H m' F' H' → HR K B m' F' h' H' → xr c ds cls dx F' H' → Kp kp σ σ' → Wx cls dx σ' H'
  | .bad => False
def tS (K : PySem.W.Frag) (xr : XRel) (B : List Nat) (Wx : WX) (kp : List Nat) (f : Vars → Hq → R Fl) : TS := fun D σ H => ∃ m F env h, SR K B m F env h σ H ∧ PostS K xr B Wx kp m F H σ (f env h) D
variable {B : List Nat} {Wx : WX} {kp : List Nat} {m m' : List Addr} {F F' H H' : Hp} {env : Vars} {h : Hq} {σ σ' : L2.St} {D : Ends}
theorem PostS.shift {r : R Fl} (p : PostS K xr B Wx kp m F H σ r D) (x : Ext m F H m' F' H') (k : Kp kp σ σ') : PostS K xr B Wx kp m' F' H' σ' r D := by
  cases r with
  | ok f h' =>
    cases f with
    | nx env => exact fun m2 F2 H2 σ2 e s q => p m2 F2 H2 σ2 (x.trans e) s (k.trans q)
    | bk env => exact fun m2 F2 H2 σ2 e s q => p m2 F2 H2 σ2 (x.trans e) s (k.trans q)
    | ct env => exact fun m2 F2 H2 σ2 e s q => p m2 F2 H2 σ2 (x.trans e) s (k.trans q)
    | rt w => exact fun m2 F2 H2 v e s q => p m2 F2 H2 v (x.trans e) s q
  | ex c ds h' => exact fun m2 F2 H2 cls dx σ2 e s y q => p m2 F2 H2 cls dx σ2 (x.trans e) s y (k.trans q)
  | bad => exact p
/-- an expression, then the rest of the statement -/
theorem PostS.bindE {α : Type} {r : R α} {f : α → Hq → R Fl} (p : PostS K xr B Wx kp m F H σ (r.bind f) D) : PostG K xr B Wx m F env σ H r (fun a h1 m1 F1 H1 => PostS K xr B Wx kp m1 F1 H1 σ (f a h1) D) := by
  cases r with
  | ok a h1 => exact fun m1 F1 H1 e s => PostS.shift p e (.refl ..)
  | ex c ds h1 => exact fun m1 F1 H1 cls dx e s y => p m1 F1 H1 cls dx σ e s y (.refl ..)
  | bad => exact p
theorem PostS.nx {env' : Vars} (p : PostS K xr B Wx kp m F H σ (.ok (.nx env') h) D) (s : SR K B m F env' h σ' H) (k : Kp kp σ σ') : D.nx σ' H := p m F H σ' (.refl ..) s k
end

theorem kp_set {kp : List Nat} {σ : L2.St} {i : Nat} {y : Option V} (h : kp.contains i = false) : Kp kp σ (σ.set i y) := by
  refine ⟨by simp, fun j hj => ?_⟩
  rw [List.getElem?_set_ne]
  intro e
  subst e
  rw [List.contains_iff_mem.mpr hj] at h
  cases h
theorem kp_sAll {kp : List Nat} : ∀ {t : List Nat} {xs : List V} {σ : L2.St}, t.all (fun i => !kp.contains i) = true → Kp kp σ (sAll t xs σ)
  | [], _, _, _ => by simp only [sAll]; exact .refl _ _
  | _ :: _, [], _, _ => by simp only [sAll]; exact .refl _ _
  | i :: is, x :: xs, σ, h => by
    simp only [sAll]
    simp only [List.all_cons, Bool.and_eq_true, Bool.not_eq_true'] at h
    exact (kp_set h.1).trans (kp_sAll h.2)
section
variable {K : PySem.W.Frag} {xr : XRel} {B : List Nat} {Wx : WX} {kp : List Nat} {m : List Addr} {F H : Hp} {env env' : Vars} {h : Hq} {σ : L2.St}
/-- a value comes to its slots -/
theorem bind_asg {t : List Nat} {u : Bool} {w : W} {x : V} {Q : L2.St → Hp → Prop} (e : bindT t u w env = some env') (r : WR K m F x w) (s : SR K B m F env h σ H) (hk : t.all (fun i => !kp.contains i) = true)
    (q : ∀ σ2, SR K B m F env' h σ2 H → Kp kp σ σ2 → Q σ2 H) : gT K t u x σ H Q := by
  unfold bindT at e
  split at e
  · split at e
    · rename_i i
      cases e
      exact q _ (s.setv r) (by simp only [List.all_cons, List.all_nil, Bool.and_true, Bool.not_eq_true'] at hk; exact kp_set hk)
    · cases e
  · split at e
    · rename_i xs
      split at e
      · rename_i hl
        cases e
        obtain ⟨a, us, rfl, sq, d⟩ : ∃ a us, x = .ref a ∧ SqT K F a us ∧ DpAll K F us xs := by
          have r : Dp K F x (.tuple xs) := r
          cases r with
          | tup h1 h2 => exact ⟨_, _, rfl, h1, h2⟩
        have hl' : us.length = t.length := by rw [d.length]; exact hl
        exact ⟨a, us, rfl, s.hr.sub.sqt sq, hl', gNames_ok hl' (q _ (SR.setAll s (WRs.ofD d)) (kp_sAll hk))⟩
      · cases e
    · cases e
end

section
variable {M : ME} {xr : XRel} {T : List FD} {n b : Nat} {B : List Nat}
/-- a def's body: what leaves it -/
structure XOk2 (X : Cx) (Wx : WX) (M : ME) (xr : XRel) (T : List FD) (n : Nat) (sc : Scope) : Prop extends XOk X Wx M xr T n sc where
  po : PassesOwn (model X.prog X.w) X.A X.env X.xe
  fn : ∀ x, X.fn x = true
  kd : sc.kind = .function
def SndS (M : ME) (xr : XRel) (T : List FD) (n b : Nat) (B : List Nat) (s : S) : Prop := ∀ (X : Cx) (Wx : WX) (sc : Scope) (kp : List Nat) (p : Stmt), XOk2 X Wx M xr T n sc → matS M kp sc s p = true → PS X p (tS X.K xr B Wx kp (evS b (callN T n) s))
def SndSs (M : ME) (xr : XRel) (T : List FD) (n b : Nat) (B : List Nat) (ss : Ss) : Prop := ∀ (X : Cx) (Wx : WX) (sc : Scope) (kp : List Nat) (ps : List Stmt), XOk2 X Wx M xr T n sc → matSs M kp sc ss ps = true → PSs X ps (tS X.K xr B Wx kp (evSs b (callN T n) ss))

theorem bindS {K : PySem.W.Frag} {Wx : WX} {kp : List Nat} {ra : Vars → Hq → R W} {g : Vars → W → Hq → R Fl} {σ : L2.St} {H : Hp} {D : Ends} {Q' : VK} (p : tS K xr B Wx kp (fun env h => (ra env h).bind (g env)) D σ H)
    (i : ∀ m F env h H w v, SR K B m F env h σ H → WR K m F v w → PostS K xr B Wx kp m F H σ (g env w h) D → Q' v H) : tE K xr B Wx ra σ H Q' := by
  obtain ⟨m, F, env, h, S, p⟩ := p
  exact ⟨m, F, env, h, S, (p.bindE (env := env)).mono fun w h1 m1 F1 H1 x1 S1 p v rv => i m1 F1 env h1 H1 w v S1 rv p⟩

theorem swap_no {sc : Scope} {tg p : Expr} {l : Nat} {env : Env} (hs : env.scope = sc) (h : notLC p = true ∨ swaps0 sc tg p = false) (hk : sc.kind = .function) (hp : ∀ g k s q, p ≠ .SetComp g k s q) (hp2 : ∀ g g' k s q, p ≠ .DictComp g g' k s q) : swapsWithSole [tg] p l env = pure false := by
  show swapsWith p (some tg) l env = pure false
  have bk : env.blockKind = .function := by unfold Env.blockKind; rw [hs, hk]; rfl
  cases p <;> try rfl
  case SetComp => exact absurd rfl (hp _ _ _ _)
  case DictComp => exact absurd rfl (hp2 _ _ _ _ _)
  case ListComp g k s q =>
    rcases h with h | h
    · simp [notLC] at h
    · cases tg <;> try rfl
      rename_i y py
      simp only [swaps0] at h
      unfold swapsWith
      simp only [bk]
      have ek : env.kindOf y = sc.names.lookup y := by unfold Env.kindOf; rw [hs]
      rw [ek]
      rw [hk] at h
      show pure _ = pure false
      exact congrArg pure h
theorem mat_noset {sc : Scope} {e : E} {p : Expr} (h : matE M sc e p = true) : (∀ g k s q, p ≠ .SetComp g k s q) ∧ ∀ g g' k s q, p ≠ .DictComp g g' k s q := by
  refine ⟨fun g k s q z => ?_, fun g g' k s q z => ?_⟩
  · subst z; cases e <;> simp [matE, noSC] at h
  · subst z; cases e <;> simp [matE, noSC] at h
end
end Ev

/-! EvM: every statement (sndS). -/
namespace Ev
open PySem PySem.Spec L2
section
variable {M : ME} {xr : XRel} {T : List FD} {n b : Nat} {B : List Nat} (hb : b ∈ B) (hB : ∀ c ∈ B, c ≤ b)
theorem sto_all {X : Cx} {Wx : WX} {sc : Scope} (k : XOk2 X Wx M xr T n sc) {x : Str} (h : isSto sc x = true) : Loc X.env.scope x ∧ (X.fn x = true ∨ X.env.scope.names.lookup x = some .local) := by
  rw [k.hs]
  exact ⟨sto_of h, .inl (k.fn x)⟩
theorem assignOne {tg : Expr} {env : Env} (h : ∀ e p, tg ≠ .Starred e p) : (assignEach [tg] env).map (·.2) = [assign tg env] := by
  cases tg <;> first | rfl | exact absurd rfl (h _ _)
include hb hB
theorem snd_asg {t : List Nat} {u : Bool} {e : E} : SndS M xr T n b B (.asg t u e) := by
  intro X Wx sc kp p k h
  cases p <;> try (simp only [matS, Bool.false_eq_true] at h; done)
  rename_i tgs p pos
  rcases tgs with _ | ⟨tg, _ | ⟨tg2, tgs⟩⟩ <;> try (simp [matS] at h; done)
  simp only [matS, Bool.and_eq_true] at h
  obtain ⟨⟨⟨⟨h1, h2⟩, h3⟩, h4⟩, h5⟩ := h
  have hg : PG X tg (gT X.K t u) := pg_T k.calm k.hN k.nd (fun x hx => sto_all k hx) h1
  have rd : ∀ {D σ H}, tS X.K xr B Wx kp (evS b (callN T n) (.asg t u e)) D σ H → tAsg (tE X.K xr B Wx (evE b (callN T n) e)) (gT X.K t u) D σ H := fun {D σ H} q => by
    simp only [tS, evS] at q
    refine bindS (ra := evE b (callN T n) e) q fun m F env hq H w v S r q => ?_
    split at q
    · rename_i env2 hb2
      exact bind_asg hb2 r S h2 fun σ2 S2 k2 => PostS.nx q S2 k2
    · exact q.elim
  by_cases hw : swaps sc tg p = true
  · -- stored as it is made
    cases p <;> try (simp [swaps] at hw; done)
    rename_i pe gs scope pos2
    cases tg <;> try (simp [swaps] at hw; done)
    rename_i y py
    cases e <;> try (simp [matE, noSC] at h3; done)
    rename_i kk t2 u2 it c e
    rcases gs with _ | ⟨⟨tg2, pi, ifs, a⟩, _ | ⟨g2, gs⟩⟩ <;> try (simp [matE] at h3; done)
    obtain ⟨rfl, L⟩ := lc_ok k.toXOk (sndIt hb hB it) (sndOe hb hB c) (sndE hb hB e) h3
    simp only [swaps, Bool.and_eq_true, decide_eq_true_eq, Bool.not_eq_true'] at hw
    obtain ⟨⟨⟨w1, w2⟩, w3⟩, w4⟩ := hw
    obtain ⟨i, rfl, rfl, hi⟩ : ∃ i, t = [i] ∧ u = false ∧ M.N[i]? = some y := by
      unfold matT at h1
      split at h1
      · rename_i i x pos heq
        cases heq
        simp only [Bool.and_eq_true, isAt, decide_eq_true_eq] at h1
        exact ⟨i, rfl, rfl, h1.1⟩
      · rename_i heq; cases heq
      · cases h1
    have hl : X.env.scope.names.lookup y = some .local := by rw [k.hs]; exact w2
    refine (ps_setLc (i := i) k.calm k.nd (by rw [k.hN]; exact hi) hl (sw_true (by rw [k.hs]; exact k.kd) hl w3 w4) L.hi L.ok L.hg L.ht L.he L.hs).weak fun D σ H q => ?_
    have q' := rd q
    unfold tAsg at q' ⊢
    rw [L.hm]
    exact lc_ev L.hne q'
  · have ns := mat_noset h3
    refine (ps_asg (sndE hb hB e X Wx sc p k.toXOk h3).pe hg ?_ ?_ ?_).weak fun D σ H q => rd q
    · refine swap_no k.hs ?_ k.kd ns.1 ns.2
      simp only [Bool.or_eq_true, Bool.not_eq_true'] at h5
      rcases h5 with (h5 | h5) | h5
      · exact absurd h5 hw
      · exact .inl h5
      · exact .inr h5
    · have hnl : ∀ ps q, tg ≠ .List ps q := fun ps q z => by
        subst z
        cases u <;> rcases t with _ | ⟨i, _ | ⟨j, t⟩⟩ <;> simp [matT] at h1
      unfold swappedStores
      simp only [Bool.or_eq_true] at h4
      rcases h4 with h4 | h4
      · cases tg <;> first | rfl | (simp [isName] at h4)
      · cases tg
        case List => exact absurd rfl (hnl _ _)
        case Tuple => cases p <;> first | rfl | (simp [notTup] at h4)
        all_goals rfl
    · exact assignOne fun a b z => by subst z; simp [matT] at h1
theorem snd_set {o i e : E} : SndS M xr T n b B (.set o i e) := by
  intro X Wx sc kp p k h
  cases p <;> try (simp only [matS, Bool.false_eq_true] at h; done)
  rename_i tgs p pos
  rcases tgs with _ | ⟨tg, _ | ⟨tg2, tgs⟩⟩ <;> try (simp [matS] at h; done)
  simp only [matS] at h
  cases tg <;> try (simp [subOf] at h; done)
  rename_i po pi pos2
  simp only [subOf, Bool.and_eq_true] at h
  obtain ⟨⟨⟨h1, h2⟩, h3⟩, h4⟩ := h
  have ns := mat_noset h4
  have ha : ∀ v, assign (.Subscript po pi pos2) X.env v = (do
      let ov ← holding [v] (eval po X.env)
      let iv ← holding [v, ov] (eval pi X.env)
      standAt pos2
      holding [v, ov, iv] (setItem ov iv v)
      release [v, ov, iv] []) := by
    intro v
    cases pi <;> first | rfl | (simp [notSlice] at h1)
  refine (ps_asg (sndE hb hB e X Wx sc p k.toXOk h4).pe (pg_sub (sndE hb hB o X Wx sc po k.toXOk h2).pe (sndE hb hB i X Wx sc pi k.toXOk h3).pe L2.set_list ha) (swap_no k.hs ?_ k.kd ns.1 ns.2) ?_ rfl).weak fun D σ H q => ?_
  · cases p <;> first | exact .inl rfl | exact .inr rfl
  · rfl
  · simp only [tS, evS] at q
    obtain ⟨m, F, env, h, S, p⟩ := q
    refine ⟨m, F, env, h, S, (p.bindE (env := env)).mono fun w h1 m1 F1 H1 x1 S1 p1 v rv => ⟨m1, F1, env, h1, S1, (p1.bindE (env := env)).mono fun w2 h2 m2 F2 H2 x2 S2 p2 v2 rv2 => ⟨m2, F2, env, h2, S2, (p2.bindE (env := env)).mono fun w3 h3 m3 F3 H3 x3 S3 p3 v3 rv3 => ?_⟩⟩⟩
    clear p p1 p2
    replace rv := wr_mono (x2.trans x3).ml (x2.trans x3).sub rv
    replace rv2 := wr_mono x3.ml x3.sub rv2
    unfold evSet at p3
    split at p3
    · rename_i nn kk
      obtain ⟨a, em, rfl⟩ := rv2
      have rv3 : Dp X.K F3 v3 (.int kk) := rv3
      cases rv3
      split at p3
      · rename_i xs eo
        obtain ⟨fa, vs, eH, dd⟩ := S3.hr.ob nn _ a eo em
        split at p3
        · rename_i j x ej
          have rv : Dp X.K F3 v x := rv
          refine ⟨a, vs, kk, j, rfl, rfl, eH, by rw [dd.length]; exact ej, ?_⟩
          obtain ⟨r', e'⟩ := S3.hr.put (u := .lst (vs.set j v)) (o := .lst (xs.set j x)) em fa ⟨fa, _, upd_same, dd.set rv j⟩ (fun c _ _ k hk => by simp [refs] at hk)
          exact p3 _ _ _ _ e' (S3.ext r' e') (.refl ..)
        · exact p3.elim
      · rename_i ws eo
        obtain ⟨fa, vs, eH, dd⟩ := S3.hr.ob nn _ a eo em
        split at p3
        · rename_i j ej
          have go : (∀ c ∈ B, nn < c → ∀ k ∈ refs (.lsw (ws.set j w)), k < c) → PostS X.K xr B Wx kp m3 F3 H3 σ (.ok (.nx env) (h3.set nn (.lsw (ws.set j w)))) D → rSetL (.ref a) (.int kk) v H3 fun H4 => D.nx σ H4 := fun hc p3 => by
            refine ⟨a, vs, kk, j, rfl, rfl, eH, by rw [dd.length]; exact ej, ?_⟩
            obtain ⟨r', e'⟩ := S3.hr.put (u := .lst (vs.set j v)) (o := .lsw (ws.set j w)) em fa ⟨fa, _, upd_same, dd.set rv j⟩ hc
            exact p3 _ _ _ _ e' (S3.ext r' e') (.refl ..)
          have old : ∀ c ∈ B, nn < c → ∀ (w' : W), refsW w' = [] ∨ c ≤ b → (∀ q, w' = .l q → c ≤ nn) → ∀ k ∈ refs (.lsw (ws.set j w')), k < c := fun c hc hn w' _ h' k hk => by
            obtain ⟨_, c2⟩ := S3.hr.clo c hc
            simp only [refs, List.mem_flatMap] at hk
            obtain ⟨y, hy, hk⟩ := hk
            rcases List.mem_or_eq_of_mem_set hy with hy | rfl
            · exact c2 nn _ k hn eo (by simp only [refs, List.mem_flatMap]; exact ⟨y, hy, hk⟩)
            · cases y with
              | d _ => simp [refsW] at hk
              | l q => exact absurd (h' q rfl) (by omega)
          cases w with
          | d x => exact go (fun c hc hn => old c hc hn _ (.inl rfl) (fun q z => nomatch z)) p3
          | l q =>
            simp only at p3
            split at p3
            · rename_i hle
              exact go (fun c hc hn => old c hc hn _ (.inr (hB c hc)) (fun q z => Nat.le_trans (hB c hc) hle)) p3
            · exact p3.elim
        · exact p3.elim
      · exact p3.elim
    · exact p3.elim
theorem snd_app {o e : E} : SndS M xr T n b B (.app o e) := by
  intro X Wx sc kp p k h
  cases p <;> try (simp only [matS, Bool.false_eq_true] at h; done)
  rename_i pe pos
  simp only [matS] at h
  cases pe <;> try (simp [appOf] at h; done)
  rename_i pf ps kw cp
  cases pf <;> try (simp [appOf] at h; done)
  rename_i po x ap
  rcases ps with _ | ⟨p, _ | ⟨p2, ps⟩⟩ <;> try (simp [appOf] at h; done)
  cases kw <;> try (simp [appOf] at h; done)
  simp only [appOf, Bool.and_eq_true, decide_eq_true_eq] at h
  obtain ⟨⟨⟨⟨⟨rfl, h0⟩, hl⟩, hn⟩, h1⟩, h2⟩ := h
  have a := (sndE hb hB o X Wx sc po k.toXOk h1).pe
  have c := (sndE hb hB e X Wx sc p k.toXOk h2).pe
  have hbase : attributeBase po "append" X.env (eval po X.env) = eval po X.env := by
    unfold attributeBase
    cases po <;> try rfl
    rename_i g as kws ps
    cases g <;> try rfl
    cases as <;> try rfl
    cases kws <;> try rfl
    simp [notCall0] at h0
  have hs := star1 (env := X.env) (ps := []) hn
  refine (ps_expr (pe_bm PySem.F.plainAttrs_list PySem.F.slot_list_append PySem.F.type_list_append mt_append a (pa_cons c pa_nil hs) hbase (by rw [hs]; rfl) hl hs rfl)).weak fun D σ H q => ?_
  simp only [tS, evS] at q
  obtain ⟨m, F, env, h, S, p0⟩ := q
  refine ⟨m, F, env, h, S, (p0.bindE (env := env)).mono fun w h1 m1 F1 H1 x1 S1 p1 v rv => ?_⟩
  clear p0
  split at p1
  · rename_i hrec
    unfold recvL at hrec
    split at hrec
    · rename_i nn
      obtain ⟨al, em, rfl⟩ := rv
      have ty : ∃ xs, SqL X.K H1 al xs := by
        split at hrec
        · rename_i eo
          obtain ⟨_, vs, eH, _⟩ := S1.hr.ob nn _ al eo em
          exact ⟨vs, .of eH⟩
        · rename_i eo
          obtain ⟨_, vs, eH, _⟩ := S1.hr.ob nn _ al eo em
          exact ⟨vs, .of eH⟩
        · cases hrec
      refine ⟨.inl ⟨rfl, ty⟩, m1, F1, env, h1, S1, (p1.bindE (env := env)).mono fun w2 h2 m2 F2 H2 x2 S2 p2 v2 rv2 => ?_⟩
      clear p1
      have em := x2.ml.get em
      simp only [evApp] at p2
      have szE := sz_eq
      split at p2
      · rename_i xs eo
        obtain ⟨fa, vs, eH, dd⟩ := S2.hr.ob nn _ al eo em
        split at p2
        · rename_i x
          split at p2
          · rename_i hlt
            have rv2 : Dp X.K F2 v2 x := rv2
            refine ⟨al, vs, v2, rfl, rfl, eH, by rw [dd.length]; omega, ?_⟩
            obtain ⟨r', e'⟩ := S2.hr.put (u := .lst (vs ++ [v2])) (o := .lst (xs ++ [x])) em fa ⟨fa, _, upd_same, dd.app (.cons rv2 .nil)⟩ (fun c _ _ k hk => by simp [refs] at hk)
            exact p2 _ _ _ _ e' (S2.ext r' e') (.refl ..)
          · exact p2.elim
        · exact p2.elim
      · rename_i ws eo
        obtain ⟨fa, vs, eH, dd⟩ := S2.hr.ob nn _ al eo em
        have go : ws.length < SZ → (∀ c ∈ B, nn < c → ∀ k ∈ refs (.lsw (ws ++ [w2])), k < c) → PostS X.K xr B Wx kp m2 F2 H2 σ (.ok (.nx env) (h2.set nn (.lsw (ws ++ [w2])))) D → rAppend (.ref al) [v2] H2 fun _ H4 => D.nx σ H4 := fun hlt hc p2 => by
          refine ⟨al, vs, v2, rfl, rfl, eH, by rw [dd.length]; omega, ?_⟩
          obtain ⟨r', e'⟩ := S2.hr.put (u := .lst (vs ++ [v2])) (o := .lsw (ws ++ [w2])) em fa ⟨fa, _, upd_same, dd.app (.cons rv2 .nil)⟩ hc
          exact p2 _ _ _ _ e' (S2.ext r' e') (.refl ..)
        have old : ∀ c ∈ B, nn < c → (∀ q, w2 = .l q → c ≤ nn) → ∀ k ∈ refs (.lsw (ws ++ [w2])), k < c := fun c hc hn' h' k hk => by
          obtain ⟨_, c2⟩ := S2.hr.clo c hc
          simp only [refs, List.mem_flatMap] at hk
          obtain ⟨y, hy, hk⟩ := hk
          rcases List.mem_append.mp hy with hy | hy
          · exact c2 nn _ k hn' eo (by simp only [refs, List.mem_flatMap]; exact ⟨y, hy, hk⟩)
          · have hy : y = w2 := by simpa using hy
            subst hy
            cases y with
            | d _ => simp [refsW] at hk
            | l q => exact absurd (h' q rfl) (by omega)
        cases w2 with
        | d x =>
          simp only at p2
          split at p2
          · rename_i hlt
            exact go hlt (fun c hc hn' => old c hc hn' (fun q z => nomatch z)) p2
          · exact p2.elim
        | l q =>
          simp only at p2
          split at p2
          · rename_i hlt
            exact go hlt.1 (fun c hc hn' => old c hc hn' (fun q z => Nat.le_trans (hB c hc) hlt.2)) p2
          · exact p2.elim
      · exact p2.elim
    · cases hrec
  · exact p1.elim
omit hb hB in
theorem if_read {X : Cx} {Wx : WX} {kp : List Nat} {rc : Vars → Hq → R W} {r1 r2 : Vars → Hq → R Fl} {D : Ends} {σ : L2.St} {H : Hp} (q : tS X.K xr B Wx kp (fun env h => (rc env h).bind fun v h => match v with
      | .d (.bool true) => r1 env h
      | .d (.bool false) => r2 env h
      | _ => .bad) D σ H) : tIfS (tT X.K xr B Wx rc) (tS X.K xr B Wx kp r1) (tS X.K xr B Wx kp r2) D σ H := by
  obtain ⟨m, F, env, h, S, p⟩ := q
  refine ⟨m, F, env, h, S, (p.bindE (env := env)).mono fun w h1 m1 F1 H1 x1 S1 p1 => ?_⟩
  clear p
  split at p1
  · exact ⟨true, rfl, iteT ⟨m1, F1, env, h1, S1, p1⟩⟩
  · exact ⟨false, rfl, iteF ⟨m1, F1, env, h1, S1, p1⟩⟩
  · exact p1.elim
omit hb hB in
theorem for_read {X : Cx} {Wx : WX} {kp : List Nat} {rit : Vars → Hq → R (List W)} {rb : Vars → Hq → R Fl} {t : List Nat} {u : Bool} {D : Ends} {σ : L2.St} {H : Hp} (hk : t.all (fun i => !kp.contains i) = true)
    (q : tS X.K xr B Wx kp (fun env h => (rit env h).bind fun ws h => forGo (fun w env h => match bindT t u w env with
      | some env => rb env h
      | none => .bad) ws env h) D σ H) : tFor (tI X.K xr B Wx rit) (gT X.K t u) (tS X.K xr B Wx kp rb) D σ H := by
  obtain ⟨m0, F0, env0, h0, S0, p⟩ := q
  refine ⟨m0, F0, env0, h0, S0, (p.bindE (env := env0)).mono fun ws h1 m1 F1 H1 x1 S1 p1 J hJ hwl => ?_⟩
  clear p
  refine ⟨fun i j σc H => j = ws.length - i ∧ i ≤ ws.length ∧ ∃ m F env h, Ext m1 F1 H1 m F H ∧ Kp kp σ σc ∧ SR X.K B m F env h σc H ∧ PostS X.K xr B Wx kp m F H σc (forGo (fun w env h => match bindT t u w env with
      | some env => rb env h
      | none => .bad) (ws.drop i) env h) D, ⟨ws.length, by simp, Nat.zero_le _, m1, F1, env0, h1, .refl .., .refl .., S1, p1⟩, ?_⟩
  rintro i j σc H ⟨rfl, hi, m, F, env, h, x, kk, S, p⟩
  obtain ⟨it1, it2⟩ := hJ i H (x.sub.trans S.hr.sub)
  by_cases hlt : i < ws.length
  · have ed : ws.drop i = ws[i] :: ws.drop (i + 1) := List.drop_eq_getElem_cons hlt
    rw [ed] at p
    simp only [forGo] at p
    obtain ⟨go, yl⟩ := it1 ws[i] (by simp [hlt])
    refine .inr ⟨go, fun σ' H' => ∃ j', j' < ws.length - i ∧ j' = ws.length - (i + 1) ∧ i + 1 ≤ ws.length ∧ ∃ m F env h, Ext m1 F1 H1 m F H' ∧ Kp kp σ σ' ∧ SR X.K B m F env h σ' H' ∧ PostS X.K xr B Wx kp m F H' σ' (forGo (fun w env h => match bindT t u w env with
      | some env => rb env h
      | none => .bad) (ws.drop (i + 1)) env h) D, fun σ' H' n => ?_, fun y H' hy => ?_⟩
    · obtain ⟨j', a, b, c, d⟩ := n
      exact ⟨j', a, b, c, d⟩
    obtain ⟨eH, ry⟩ := yl y H' hy
    subst eH
    cases hbt : bindT t u ws[i] env with
    | none => rw [hbt] at p; exact p.elim
    | some env2 =>
    rw [hbt] at p
    simp only at p
    refine bind_asg (kp := kp) hbt (wr_mono x.ml x.sub ry) S hk fun σ2 S2 k2 => ⟨m, F, env2, h, S2, ?_⟩
    have next : ∀ {env3 : Vars} {h3 : Hq}, PostS X.K xr B Wx kp m F H' σc (forGo (fun w env h => match bindT t u w env with
      | some env => rb env h
      | none => .bad) (ws.drop (i + 1)) env3 h3) D → ∀ m' F' H3 σ', Ext m F H' m' F' H3 → SR X.K B m' F' env3 h3 σ' H3 → Kp kp σ2 σ' → ∃ j', j' < ws.length - i ∧ j' = ws.length - (i + 1) ∧ i + 1 ≤ ws.length ∧ ∃ m F env h, Ext m1 F1 H1 m F H3 ∧ Kp kp σ σ' ∧ SR X.K B m F env h σ' H3 ∧ PostS X.K xr B Wx kp m F H3 σ' (forGo (fun w env h => match bindT t u w env with
      | some env => rb env h
      | none => .bad) (ws.drop (i + 1)) env h) D := fun {env3 h3} p m' F' H3 σ' x3 S3 k3 =>
      ⟨ws.length - (i + 1), by omega, rfl, hlt, m', F', env3, h3, x.trans x3, kk.trans (k2.trans k3), S3, p.shift x3 (k2.trans k3)⟩
    cases hr : rb env2 h with
    | bad => rw [hr] at p; exact p.elim
    | ex c ds h3 => rw [hr] at p; exact p.shift (.refl ..) k2
    | ok f h3 =>
      rw [hr] at p
      cases f with
      | nx env3 => exact next p
      | ct env3 => exact next p
      | bk env3 => exact PostS.shift (r := .ok (.nx env3) h3) p (.refl ..) k2
      | rt w => exact PostS.shift (r := .ok (.rt w) h3) p (.refl ..) k2
  · have ei : i = ws.length := by omega
    subst ei
    rw [List.drop_length] at p
    exact .inl ⟨it2 (Nat.le_refl _), PostS.nx p S (.refl ..)⟩
omit hb hB in
theorem whl_read {X : Cx} {Wx : WX} {kp : List Nat} {rc : Vars → Hq → R W} {rb : Vars → Hq → R Fl} {N : Nat} {D : Ends} {σ : L2.St} {H : Hp}
    (q : tS X.K xr B Wx kp (fun env h => whlGo rc rb N env h) D σ H) : tWhile (tT X.K xr B Wx rc) (tS X.K xr B Wx kp rb) D σ H := by
  obtain ⟨m0, F0, env0, h0, S0, p0⟩ := q
  refine ⟨fun j σc H => ∃ m F env h, SR X.K B m F env h σc H ∧ PostS X.K xr B Wx kp m F H σc (whlGo rc rb j env h) D, ⟨N, m0, F0, env0, h0, S0, p0⟩, ?_⟩
  rintro j σc H ⟨m, F, env, h, S, p⟩
  cases j with
  | zero => exact p.elim
  | succ j =>
    simp only [whlGo] at p
    refine ⟨m, F, env, h, S, (p.bindE (env := env)).mono fun w h1 m1 F1 H1 x1 S1 p1 => ?_⟩
    clear p
    split at p1
    · exact ⟨false, rfl, iteF (PostS.nx p1 S1 (.refl ..))⟩
    · refine ⟨true, rfl, iteT ⟨fun σ' H' => ∃ m' , m' < j + 1 ∧ ∃ m F env h, SR X.K B m F env h σ' H' ∧ PostS X.K xr B Wx kp m F H' σ' (whlGo rc rb m' env h) D, fun σ' H' n => n, m1, F1, env, h1, S1, ?_⟩⟩
      have next : ∀ {env3 : Vars} {h3 : Hq}, PostS X.K xr B Wx kp m1 F1 H1 σc (whlGo rc rb j env3 h3) D → ∀ m' F' H3 σ', Ext m1 F1 H1 m' F' H3 → SR X.K B m' F' env3 h3 σ' H3 → Kp kp σc σ' → ∃ m', m' < j + 1 ∧ ∃ m F env h, SR X.K B m F env h σ' H3 ∧ PostS X.K xr B Wx kp m F H3 σ' (whlGo rc rb m' env h) D :=
        fun {env3 h3} p m' F' H3 σ' x3 S3 k3 => ⟨j, by omega, m', F', env3, h3, S3, p.shift x3 k3⟩
      cases hr : rb env h1 with
      | bad => rw [hr] at p1; exact p1.elim
      | ex c ds h3 => rw [hr] at p1; exact p1
      | ok f h3 =>
        rw [hr] at p1
        cases f with
        | nx env3 => exact next p1
        | ct env3 => exact next p1
        | bk env3 => exact p1
        | rt w => exact p1
    · exact p1.elim
omit hb hB in
theorem frz_read {X : Cx} {Wx : WX} {kp : List Nat} {i : Nat} {ss : Ss} {D : Ends} {σ : L2.St} {H : Hp} (q : tS X.K xr B Wx kp (evSs b (callN T n) (.cons (.frz i) ss)) D σ H) : tS X.K xr B Wx kp (evSs b (callN T n) ss) D σ H := by
  obtain ⟨m, F, env, h, S, p⟩ := q
  simp only [evSs, evS] at p
  unfold evFrz at p
  split at p
  · rename_i nn ei
    split at p
    · rename_i xs eo
      obtain ⟨v, ev, rv⟩ := S.var i _ ei
      obtain ⟨a, em, rfl⟩ := rv
      obtain ⟨fa, vs, eH, dd⟩ := S.hr.ob nn _ a eo em
      obtain ⟨r', e'⟩ := S.hr.frz em fa eH
      have p : PostS X.K xr B Wx kp m F H σ (evSs b (callN T n) ss (env.set i (some (.d (.list xs)))) (h.set nn .dead)) D := p
      refine ⟨m, _, _, _, ⟨r', by simpa using S.el, fun j w ej => ?_⟩, p.shift e' (.refl ..)⟩
      by_cases hj : j = i
      · subst hj
        have hl : j < env.length := (List.getElem?_eq_some_iff.mp ei).1
        rw [List.getElem?_set_self hl] at ej
        cases ej
        exact ⟨_, ev, .lst sq_new (dps_mono e'.sub _ _ dd)⟩
      · rw [List.getElem?_set_ne (Ne.symm hj)] at ej
        obtain ⟨v, h1, h2⟩ := S.var j w ej
        exact ⟨v, h1, wr_mono (.refl _) e'.sub h2⟩
    · exact p.elim
  · exact p.elim

mutual
theorem sndS : ∀ s : S, SndS M xr T n b B s
  | .bad => by
    intro X Wx sc kp p k h
    refine ⟨fun pins s σ H D I q => ?_⟩
    obtain ⟨m, F, env, hq, S, q⟩ := q
    simp only [evS] at q
    exact q.elim
  | .asg t u e => snd_asg hb hB
  | .set o i e => snd_set hb hB
  | .app o e => snd_app hb hB
  | .expr e => by
    intro X Wx sc kp p k h
    cases p <;> try (simp only [matS, Bool.false_eq_true] at h; done)
    rename_i p pos
    simp only [matS, Bool.and_eq_true] at h
    have hs : swapsWith p none pos.line X.env = pure false := by
      cases p <;> first | rfl | (simp [notLC] at h)
    refine (ps_expr (sndE hb hB e X Wx sc p k.toXOk h.2).pe hs).weak fun D σ H q => ?_
    simp only [tS, evS] at q
    exact bindS (ra := evE b (callN T n) e) q fun m F env hq H w v S r q => PostS.nx q S (.refl ..)
  | .ret e => by
    intro X Wx sc kp p k h
    cases p <;> try (simp only [matS, Bool.false_eq_true] at h; done)
    rename_i v pos
    cases v <;> simp only [matS, Bool.false_eq_true] at h
    refine (ps_ret (sndE hb hB e X Wx sc _ k.toXOk h).pe).weak fun D σ H q => ?_
    simp only [tS, evS] at q
    exact bindS (ra := evE b (callN T n) e) q fun m F env hq H w v S r q => q m F H v (.refl ..) S.hr r
  | .retN => by
    intro X Wx sc kp p k h
    cases p <;> try (simp only [matS, Bool.false_eq_true] at h; done)
    rename_i v pos
    cases v <;> simp only [matS, Bool.false_eq_true] at h
    refine ps_retN.weak fun D σ H q => ?_
    obtain ⟨m, F, env, hq, S, q⟩ := q
    exact q m F H _ (.refl ..) S.hr .non
  | .ifs c x y => by
    intro X Wx sc kp p k h
    cases p <;> simp only [matS, Bool.false_eq_true, Bool.and_eq_true] at h
    refine (ps_if ((sndE hb hB c X Wx sc _ k.toXOk h.1.1.2).pt h.1.1.1) (sndSs x X Wx sc kp _ k h.1.2) (sndSs y X Wx sc kp _ k h.2)).weak fun D σ H q => ?_
    simp only [tS, evS] at q
    exact if_read q
  | .forS t u it s => by
    intro X Wx sc kp p k h
    cases p <;> try (simp only [matS, Bool.false_eq_true] at h; done)
    rename_i tg pi ps os pos
    cases os <;> try (simp [matS] at h; done)
    simp only [matS, Bool.and_eq_true] at h
    obtain ⟨⟨⟨⟨h1, h2⟩, h3⟩, h4⟩, h5⟩ := h
    refine (ps_for k.po k.calm (sndIt hb hB it X Wx sc tg pi k.toXOk h4) (pg_T k.calm k.hN k.nd (fun x hx => sto_all k hx) h1) (sndSs s X Wx sc kp ps k h5) (noset h3)).weak fun D σ H q => ?_
    simp only [tS, evS] at q
    exact for_read h2 q
  | .whl N c s => by
    intro X Wx sc kp p k h
    cases p <;> try (simp only [matS, Bool.false_eq_true] at h; done)
    rename_i pc ps os pos
    cases os <;> try (simp [matS] at h; done)
    simp only [matS, Bool.and_eq_true] at h
    refine (ps_while k.po ((sndE hb hB c X Wx sc _ k.toXOk h.1.2).pt h.1.1) (sndSs s X Wx sc kp ps k h.2)).weak fun D σ H q => ?_
    simp only [tS, evS] at q
    exact whl_read q
  | .pass => by
    intro X Wx sc kp p k h
    cases p <;> try (simp only [matS, Bool.false_eq_true] at h; done)
    refine ps_pass.weak fun D σ H q => ?_
    obtain ⟨m, F, env, hq, S, q⟩ := q
    exact PostS.nx q S (.refl ..)
  | .brk => by
    intro X Wx sc kp p k h
    cases p <;> try (simp only [matS, Bool.false_eq_true] at h; done)
    refine ps_break.weak fun D σ H q => ?_
    obtain ⟨m, F, env, hq, S, q⟩ := q
    exact q m F H σ (.refl ..) S (.refl ..)
  | .cnt => by
    intro X Wx sc kp p k h
    cases p <;> try (simp only [matS, Bool.false_eq_true] at h; done)
    refine ps_continue.weak fun D σ H q => ?_
    obtain ⟨m, F, env, hq, S, q⟩ := q
    exact q m F H σ (.refl ..) S (.refl ..)
  | .rais c es => by
    intro X Wx sc kp p k h
    cases p <;> simp only [matS, Bool.false_eq_true] at h
  | .frz i => by
    intro X Wx sc kp p k h
    cases p <;> simp only [matS, Bool.false_eq_true] at h
theorem sndSs : ∀ ss : Ss, SndSs M xr T n b B ss
  | .nil => by
    intro X Wx sc kp ps k h
    cases ps <;> simp only [matSs, Bool.false_eq_true] at h
    refine pss_nil.weak fun D σ H q => ?_
    obtain ⟨m, F, env, hq, S, q⟩ := q
    exact PostS.nx q S (.refl ..)
  | .cons s ss => by
    intro X Wx sc kp ps k h
    by_cases hf : ∃ i, s = .frz i
    · obtain ⟨i, rfl⟩ := hf
      simp only [matSs] at h
      exact (sndSs ss X Wx sc kp ps k h).weak fun D σ H q => frz_read q
    · cases ps with
      | nil => cases s <;> first | (simp [matSs] at h; done) | exact absurd ⟨_, rfl⟩ hf
      | cons p ps =>
        have h' : matS M kp sc s p = true ∧ matSs M kp sc ss ps = true := by
          cases s <;> first | (simpa [matSs] using h) | exact absurd ⟨_, rfl⟩ hf
        refine (pss_cons (sndS s X Wx sc kp p k h'.1) (sndSs ss X Wx sc kp ps k h'.2)).weak fun D σ H q => ?_
        obtain ⟨m, F, env, hq, S, q⟩ := q
        simp only [evSs] at q
        refine ⟨m, F, env, hq, S, ?_⟩
        cases e : evS b (callN T n) s env hq with
        | bad => rw [e] at q; exact q.elim
        | ex c ds h1 => rw [e] at q; exact q
        | ok f h1 =>
          rw [e] at q
          cases f with
          | nx env1 => exact fun m1 F1 H1 σ1 x1 S1 k1 => ⟨m1, F1, env1, h1, S1, PostS.shift (r := evSs b (callN T n) ss env1 h1) q x1 k1⟩
          | rt w => exact q
          | bk env1 => exact q
          | ct env1 => exact q
end
end
end Ev

/-! EvN: every def keeps its promise (fnAll). -/
namespace Ev
open PySem PySem.Spec L2

/-- what must be known of the defs: the table T stands for the program's defs -/
def DefOk (K : PySem.W.Frag) (mg : Str → Option Value) (T : List FD) (fn : List Str) (gi : List (Str × Int)) (f : Nat) (x : Str) : Prop :=
  ∃ (fd : FD) (nm qual : Str) (params : Arguments) (body : List Stmt) (scope : Scope) (a : Addr) (fdt : FuncData) (ps N : List Str), T[f]? = some fd ∧ FunD K nm qual params body scope [] [] a fdt ∧ FnScope N ps scope ∧ ps.length = fd.np ∧ N.length = fd.ns ∧
    matSs ⟨N, fn, gi⟩ [] scope fd.body body = true ∧ mg x = some (.ref a) ∧ Binds K fdt ps []

theorem HR.grow {K : PySem.W.Frag} {B : List Nat} {m : List Addr} {F H : Hp} {h : Hq} (r : HR K B m F h H) : HR K (h.length :: B) m F h H := by
  refine ⟨r.len, r.nd, r.ob, r.sub, r.there, fun c hc => ?_⟩
  rcases List.mem_cons.mp hc with e | hc
  · subst e
    refine ⟨Nat.le_refl _, fun n o k hn e hk => ?_⟩
    obtain ⟨a, ea, q⟩ := r.at e
    cases o with
    | lst xs => simp [refs] at hk
    | dct xs => simp [refs] at hk
    | dead => simp [refs] at hk
    | lsw ws =>
      obtain ⟨f, vs, eH, d⟩ := q
      clear e eH
      induction d with
      | nil => simp [refs] at hk
      | cons d1 d2 ih =>
        rename_i w ws'
        simp only [refs, List.flatMap_cons, List.mem_append] at hk
        rcases hk with hk | hk
        · cases w with
          | d x => simp [refsW] at hk
          | l j =>
            simp only [refsW, List.mem_singleton] at hk
            subst hk
            obtain ⟨b, eb, rfl⟩ := d1
            rw [← r.len]
            exact (List.getElem?_eq_some_iff.mp eb).1
        · exact ih hk
  · exact r.clo c hc

section
variable {P : Program} {w : World} {K : PySem.W.Frag} {mg : Str → Option Value} {base : Heap} {xr : XRel} {T : List FD} {fn : List Str} {gi : List (Str × Int)}

theorem sr_start {B : List Nat} {m : List Addr} {F H : Hp} {h : Hq} {N : List Str} {vs : List V} {ws : List W} {k : Nat} (r : HR K B m F h H) (q : WRs K m F vs ws) (hk : ws.length + k = N.length) :
    SR K B m F (ws.map some ++ List.replicate k none) h (L2.start N vs) H := by
  have hl := q.length
  refine ⟨r, ?_, fun i w e => ?_⟩
  · unfold L2.start
    simp only [List.length_append, List.length_map, List.length_replicate]
    omega
  · by_cases hi : i < ws.length
    · rw [List.getElem?_append_left (by simpa using hi), List.getElem?_map] at e
      cases e2 : ws[i]? with
      | none => rw [e2] at e; cases e
      | some w' =>
        rw [e2] at e
        cases e
        obtain ⟨v, hv, rv⟩ := q.get e2
        refine ⟨v, ?_, rv⟩
        unfold L2.start
        rw [List.getElem?_append_left (by simpa using by omega), List.getElem?_map, hv]
        rfl
    · rw [List.getElem?_append_right (by simpa using hi), List.getElem?_replicate] at e
      split at e <;> cases e

/-- what is cut off was made since -/
theorem Ext.cut {m m' : List Addr} {F F' H H' : Hp} (x : Ext m F H m' F' H') : Ext m F H m F' H' :=
  ⟨.refl _, x.sub, x.frm, fun a h g => absurd h g, x.frf⟩

theorem spF_len {n f : Nat} {fd : FD} (e : T[f]? = some fd) {vs : List V} {H : Hp} {Q : VK} {E : XK} (s : spF K xr T n f vs H Q E) : vs.length = fd.np := by
  obtain ⟨fd', e', l, _⟩ := s
  rw [e] at e'
  cases e'
  exact l

theorem spF_zero {f : Nat} {vs : List V} {H : Hp} {Q : VK} {E : XK} (s : spF K xr T 0 f vs H Q E) : False := by
  obtain ⟨fd, e, l, B, b, m, F, ws, h, hb, hB, r, q, s⟩ := s
  exact s

/-- a def keeps its promise, if those that it calls do -/
theorem fnStep {n f : Nat} (hbl : ∀ x ∈ bnames, mg x = none) (hgi : ∀ x i, (x, i) ∈ gi → ∃ t, mg x = some (.int i t)) (ih : ∀ (f : Nat) (x : Str), fn[f]? = some x → ∃ a fd ps, mg x = some (.ref a) ∧ PySem.W.keepIn K (.ref a) = true ∧ Binds K fd ps [] ∧ FnOk P w K mg base (L2.CX P w) n a fd ps (spF K xr T n f))
    {fd : FD} {nm qual : Str} {params : Arguments} {body : List Stmt} {scope : Scope} {a : Addr} {fdt : FuncData} {ps N : List Str} (eT : T[f]? = some fd) (FD' : FunD K nm qual params body scope [] [] a fdt) (FS : FnScope N ps scope) (l1 : ps.length = fd.np) (l2 : N.length = fd.ns)
    (hm : matSs ⟨N, fn, gi⟩ [] scope fd.body body = true) : FnOk P w K mg base (L2.CX P w) (n + 1) a fdt ps (spF K xr T (n + 1) f) := by
    refine FD'.ok FS (fun vs H Q E s => by rw [spF_len eT s, l1]) fun cdv A outer s H vs Q E hr sp => ?_
    obtain ⟨fd2, eT2, hl, B, b, m, F, ws, h, hb, hB, r, q, sp⟩ := sp
    rw [eT] at eT2
    cases eT2
    have hlw : ws.length = fd.np := by rw [← q.length]; exact hl
    have hpl : fd.np ≤ N.length := by
      have := congrArg List.length FS.pre
      rw [List.length_take] at this
      omega
    have ev : callN T (n + 1) b f ws h = runF (callN T n) fd b ws h := by simp only [callN, eT]
    rw [ev] at sp
    have k : XOk2 (cxOf (L2.CX P w) P w K mg base N qual scope a cdv A outer s H E) (fun cls d _ H => E cls d H) ⟨N, fn, gi⟩ xr T n scope := by
      refine ⟨⟨rfl, FS.nd, rfl, rfl, takes_of rfl rfl rfl rfl, ?_, hr, hbl, hgi, fun f x e => ih f x e⟩, passes_of rfl, fun _ => rfl, FS.kind⟩
      have := hr.un
      show (A.deeper _).units + 200 < cLine
      omega
    unfold runF at sp
    rw [if_pos hlw] at sp
    cases htr : fd.tr with
    | false =>
      rw [htr] at sp
      simp only [Bool.false_eq_true, if_false] at sp
      refine ⟨_, sndSs hb hB fd.body _ _ scope [] body k hm, m, F, ws.map some ++ List.replicate (fd.ns - fd.np) none, h, sr_start r q (by omega), ?_⟩
      cases e2 : evSs b (callN T n) fd.body (ws.map some ++ List.replicate (fd.ns - fd.np) none) h with
      | bad => rw [e2] at sp; exact sp.elim
      | ex c ds h' => rw [e2] at sp; exact fun m' F' H' cls dx σ' x r' y _ => sp m' F' H' cls dx x r' y
      | ok fl h' =>
        rw [e2] at sp
        cases fl with
        | nx env => exact fun m' F' H' σ' x r' _ => sp .non m' F' H' x r'.hr .non
        | rt wv => exact fun m' F' H' v x r' rv => sp v m' F' H' x r' rv
        | bk env => exact sp.elim
        | ct env => exact sp.elim
    | true =>
      rw [htr] at sp
      simp only [if_true] at sp
      have hB2 : ∀ c ∈ h.length :: B, c ≤ h.length := fun c hc => by
        rcases List.mem_cons.mp hc with e | hc
        · omega
        · exact (r.clo c hc).1
      have cutHR : ∀ {m' F' H' h'}, Ext m F H m' F' H' → HR K (h.length :: B) m' F' h' H' → HR K B m F' (h'.take h.length) H' := fun x r' => r'.cut x.ml r.len.symm fun d hd => (r.clo d hd).1
      refine ⟨_, sndSs (b := h.length) (B := h.length :: B) List.mem_cons_self hB2 fd.body _ _ scope [] body k hm, m, F, ws.map some ++ List.replicate (fd.ns - fd.np) none, h, sr_start r.grow q (by omega), ?_⟩
      cases e2 : evSs h.length (callN T n) fd.body (ws.map some ++ List.replicate (fd.ns - fd.np) none) h with
      | bad => rw [e2] at sp; exact sp.elim
      | ex c ds h' => rw [e2] at sp; exact fun m' F' H' cls dx σ' x r' y _ => sp m F' H' cls dx x.cut (cutHR x r') y
      | ok fl h' =>
        rw [e2] at sp
        cases fl with
        | nx env => exact fun m' F' H' σ' x r' _ => sp .non m F' H' x.cut (cutHR x r'.hr) .non
        | rt wv =>
          cases wv with
          | d d => exact fun m' F' H' v x r' rv => sp v m F' H' x.cut (cutHR x r') rv
          | l j => exact sp.elim
        | bk env => exact sp.elim
        | ct env => exact sp.elim
/-- every def keeps its promise -/
theorem fnAll (hbl : ∀ x ∈ bnames, mg x = none) (hgi : ∀ x i, (x, i) ∈ gi → ∃ t, mg x = some (.int i t)) (hk : ∀ (f : Nat) (x : Str), fn[f]? = some x → DefOk K mg T fn gi f x) (hkp : ∀ (f : Nat) (x : Str) (a : Addr), fn[f]? = some x → mg x = some (.ref a) → PySem.W.keepIn K (.ref a) = true) : ∀ (n f : Nat) (x : Str), fn[f]? = some x →
    ∃ a fd ps, mg x = some (.ref a) ∧ PySem.W.keepIn K (.ref a) = true ∧ Binds K fd ps [] ∧ FnOk P w K mg base (L2.CX P w) n a fd ps (spF K xr T n f)
  | 0, f, x, e => by
    obtain ⟨fd, nm, qual, params, body, scope, a, fdt, ps, N, eT, FD', FS, l1, l2, hm, hg, hbd⟩ := hk f x e
    exact ⟨a, fdt, ps, hg, hkp f x a e hg, hbd, ⟨fun vs H Q E s => (spF_zero s).elim, fun A outer s H args us vs Q E hr he hb hv hs => (spF_zero hs).elim⟩⟩
  | n + 1, f, x, e => by
    obtain ⟨fd, nm, qual, params, body, scope, a, fdt, ps, N, eT, FD', FS, l1, l2, hm, hg, hbd⟩ := hk f x e
    exact ⟨a, fdt, ps, hg, hkp f x a e hg, hbd, fnStep hbl hgi (fnAll hbl hgi hk hkp n) eT FD' FS l1 l2 hm⟩
end
end Ev

/-! EvO: from a table of terms to the law (law_of). -/
namespace Ev
open PySem PySem.Spec L2

/-- one def of the row's top: its statement, parameters, names, term -/
structure DF where
  nm : Str
  st : Stmt
  ps : List Str
  N : List Str
  fd : FD
def DF.dd (d : DF) : He.DefD := ⟨(d.nm, none), d.nm, d.nm, defArgs d.st, defBody d.st, defScope d.st, [], []⟩
def DF.chk (fn : List Str) (gi : List (Str × Int)) (d : DF) : Bool := decide ((defScope d.st).kind = .function) && (decide ((defScope d.st).isCoroutine = false) && (decide ((defScope d.st).isGenerator = false) && (decide d.N.Nodup && (decide (d.N.take d.ps.length = d.ps) &&
  ((d.ps.all fun x => decide ((defScope d.st).names.lookup x = some .local ∨ (defScope d.st).names.lookup x = some .cell)) && (((defScope d.st).names.all fun y => decide (y.2 ≠ .free)) && (decide (d.ps.length = d.fd.np) && (decide (d.N.length = d.fd.ns) &&
  matSs ⟨d.N, fn, gi⟩ [] (defScope d.st) d.fd.body (defBody d.st)))))))))
theorem DF.scope {fn : List Str} {gi : List (Str × Int)} {d : DF} (h : d.chk fn gi = true) : FnScope d.N d.ps (defScope d.st) ∧ d.ps.length = d.fd.np ∧ d.N.length = d.fd.ns ∧ matSs ⟨d.N, fn, gi⟩ [] (defScope d.st) d.fd.body (defBody d.st) = true := by
  unfold DF.chk at h
  simp only [Bool.and_eq_true, decide_eq_true_eq, List.all_eq_true] at h
  obtain ⟨h1, h2, h3, h4, h5, h6, h7, h8, h9, h10⟩ := h
  exact ⟨⟨h1, h2, h3, h4, h5, h6, h7⟩, h8, h9, h10⟩
def DF.Bnd (d : DF) : Prop := ∀ (kV doc pm : Value) (an : Option Addr) (cdv ct : Value) (us : List Value), us.length = d.ps.length → bindArgs (PySem.W.fnOf d.nm d.nm (defArgs d.st) (defBody d.st) (defScope d.st) .none kV doc pm an cdv ct) ⟨us, []⟩ = pure (d.ps.zip us)
def fas (ds : List DF) (gi : List (Str × Int)) : List He.Fa := ds.map (fun d => .glo d.nm) ++ (bnames.map .free ++ gi.map fun g => .int g.1 g.2)
def fns (ds : List DF) : List He.DefD := ds.map DF.dd

section
variable {P : Program} {w : World} {K : PySem.W.Frag} {mg : Str → Option Value} {h : Heap} {ds : List DF} {gi : List (Str × Int)}
theorem glo_at (X : K.In h) (G : h.Ns mainGlobals mg) (c : He.SaysD (fas ds gi) (fns ds) K) {i : Nat} {d : DF} (e : ds[i]? = some d) : mg d.nm = some (.ref (He.ga K d.nm)) := by
  refine He.glo_ok X G (c.fact i ?_)
  unfold fas
  rw [List.getElem?_append_left (by rw [List.length_map]; exact (List.getElem?_eq_some_iff.mp e).1), List.getElem?_map, e]
  rfl
theorem def_at (c : He.SaysD (fas ds gi) (fns ds) K) {i : Nat} {d : DF} (e : ds[i]? = some d) : ∃ fd, FunD K d.nm d.nm (defArgs d.st) (defBody d.st) (defScope d.st) [] [] (He.ga K d.nm) fd := by
  have e2 : (fns ds)[i]? = some d.dd := by unfold fns; rw [List.getElem?_map, e]; rfl
  exact c.def_ i e2
theorem free_at (X : K.In h) (G : h.Ns mainGlobals mg) (c : He.SaysD (fas ds gi) (fns ds) K) : ∀ x ∈ bnames, mg x = none := fun x hx => by
  obtain ⟨i, e⟩ := List.getElem?_of_mem hx
  refine He.free_ok X G (c.fact (ds.length + i) ?_)
  unfold fas
  have : ds.length + i - ds.length = i := by omega
  rw [List.getElem?_append_right (by rw [List.length_map]; omega), List.length_map, this, List.getElem?_append_left (by rw [List.length_map]; exact (List.getElem?_eq_some_iff.mp e).1), List.getElem?_map, e]
  rfl
theorem int_at (X : K.In h) (G : h.Ns mainGlobals mg) (c : He.SaysD (fas ds gi) (fns ds) K) : ∀ x i, (x, i) ∈ gi → ∃ t, mg x = some (.int i t) := fun x v hx => by
  obtain ⟨i, e⟩ := List.getElem?_of_mem hx
  refine He.int_ok X G (c.fact (ds.length + (bnames.length + i)) ?_)
  unfold fas
  have h1 : ds.length + (bnames.length + i) - ds.length = bnames.length + i := by omega
  have h2 : bnames.length + i - bnames.length = i := by omega
  rw [List.getElem?_append_right (by rw [List.length_map]; omega), List.length_map, h1, List.getElem?_append_right (by rw [List.length_map]; omega), List.length_map, h2, List.getElem?_map, e]
  rfl
theorem defs_ok (X : K.In h) (G : h.Ns mainGlobals mg) (c : He.SaysD (fas ds gi) (fns ds) K) (ck : ds.all (DF.chk (ds.map (·.nm)) gi) = true) (bd : ∀ d ∈ ds, d.Bnd) (f : Nat) (x : Str) (e : (ds.map (·.nm))[f]? = some x) : DefOk K mg (ds.map (·.fd)) (ds.map (·.nm)) gi f x := by
  rw [List.getElem?_map] at e
  cases e2 : ds[f]? with
  | none => rw [e2] at e; cases e
  | some d =>
    rw [e2] at e
    cases e
    obtain ⟨fdt, FD'⟩ := def_at c e2
    have hm := List.mem_of_getElem? e2
    obtain ⟨h1, h2, h3, h4⟩ := DF.scope (List.all_eq_true.mp ck d hm)
    exact ⟨d.fd, d.nm, d.nm, defArgs d.st, defBody d.st, defScope d.st, _, fdt, d.ps, d.N, by rw [List.getElem?_map, e2]; rfl, FD', h1, h2, h3, h4, glo_at X G c e2, FD'.bindsN (bd d hm)⟩
theorem defs_keep (X : K.In h) (G : h.Ns mainGlobals mg) (c : He.SaysD (fas ds gi) (fns ds) K) (f : Nat) (x : Str) (a : Addr) (e : (ds.map (·.nm))[f]? = some x) (em : mg x = some (.ref a)) : PySem.W.keepIn K (.ref a) = true := by
  rw [List.getElem?_map] at e
  cases e2 : ds[f]? with
  | none => rw [e2] at e; cases e
  | some d =>
    rw [e2] at e
    cases e
    obtain ⟨fdt, FD'⟩ := def_at c e2
    have := (glo_at X G c e2).symm.trans em
    cases this
    exact FD'.kp

def xr0 : XRel := fun _ _ _ _ _ _ => False
theorem dps_ints {F : Hp} : ∀ ns : List Int, DpAll K F (ns.map V.int) (ns.map PyData.int)
  | [] => .nil
  | n :: ns => .cons (.int n) (dps_ints ns)
theorem start_sp {n i : Nat} {T : List FD} {fd : FD} (eT : T[i]? = some fd) (hn : fd.np = 1) {H : Hp} {a : Addr} {ns : List Int} (s : SqL K H a (ns.map V.int)) {hz : Hq} (pl : callN T n 0 i [.d (.list (ns.map .int))] [] = .ok (.d (.bool true)) hz) :
    spF K xr0 T n i [.ref a] H (fun v _ => v = .bl true) fun _ _ _ => False := by
  refine ⟨fd, eT, by rw [hn]; rfl, [0], 0, [], H, [.d (.list (ns.map .int))], [], by simp, by simp, ⟨rfl, by simp, fun n o a e => by simp at e, .refl _, by simp, ?_⟩, .cons (.lst s (dps_ints ns)) .nil, ?_⟩
  · intro c hc
    simp only [List.mem_singleton] at hc
    subst hc
    exact ⟨by simp, fun n o k hn => by omega⟩
  · rw [pl]
    intro v m' F' H' x r rv
    have rv : Dp K F' v (.bool true) := rv
    cases rv
    rfl

/-- whatever the world: what a def lets out -/
def CXW (P : Program) : CXT := fun outer H s E u s' => ∃ w, L2.CX P w outer H s E u s'
theorem CXW.none {H : Hp} {s : Shared} {e : Value} {s' : Shared} (z : CXW P [] H s (fun _ _ _ => False) e s') : False := by
  obtain ⟨_, _, _, _, _, _, _, _, _, _, _, _, _, z⟩ := z
  exact z
theorem FnOk.toW {base : Heap} {k : Nat} {f : Addr} {fd : FuncData} {ps : List Str} {sp : Sp} (F : FnOk P w K mg base (L2.CX P w) k f fd ps sp) : FnOk P w K mg base (CXW P) k f fd ps sp :=
  ⟨F.len, fun A outer s H args us vs Q E hr he hb hv hs => codeAny_mono (F.run A outer s H args us vs Q E hr he hb hv hs) fun r s' q => by
    cases r with
    | error e => exact ⟨w, q⟩
    | ok fl => cases fl <;> exact q⟩
/-- the law's facts -/
theorem law_facts {n i : Nat} {d : DF} {f : Addr} (X : K.In h) (G : h.Ns mainGlobals mg) (c : He.SaysD (fas ds gi) (fns ds) K) (ck : ds.all (DF.chk (ds.map (·.nm)) gi) = true) (bd : ∀ d ∈ ds, d.Bnd) (e : ds[i]? = some d) (hps : d.ps = [("_law_script" : Str)]) (hfa : mg d.nm = some (.ref f))
    (pl : ∀ ns : List Int, ns.length ≤ 63 → ∃ hz, callN (ds.map (·.fd)) (n + 1) 0 i [.d (.list (ns.map .int))] [] = .ok (.d (.bool true)) hz) :
    ∃ (K : PySem.W.Frag) (fd : FuncData) (sp : Sp), K.In h ∧ (∀ (s : Shared) (u : Value), BindsTo s fd ⟨[u], []⟩ [("_law_script", u)]) ∧
        (∀ (H : Hp) (a : Addr) (ns : List Int), ns.length ≤ 63 → Only H → SqL K H a (ns.map V.int) → sp [.ref a] H (fun v _ => v = .bl true) fun _ _ _ => False) ∧
        ∀ base : Heap, K.In base → base.Ns mainGlobals mg → FnOk P w K mg base (CXW P) (n + 1) f fd ["_law_script"] sp := by
  obtain ⟨fdt, FD'⟩ := def_at c e
  have hm := List.mem_of_getElem? e
  obtain ⟨h1, h2, h3, h4⟩ := DF.scope (List.all_eq_true.mp ck d hm)
  have hg := glo_at X G c e
  rw [hfa] at hg
  have hfe : f = He.ga K d.nm := by cases hg; rfl
  subst hfe
  refine ⟨K, fdt, spF K xr0 (ds.map (·.fd)) (n + 1) i, X, fun s v => ?_, fun H a ns hl hO hS => ?_, fun base hb hn => ?_⟩
  · have b := FunD.bindsA (ps := d.ps) FD' (bd d hm) s [v] (by rw [hps]; rfl)
    rw [hps] at b
    exact b
  · obtain ⟨hz, pl⟩ := pl ns hl
    exact start_sp (by rw [List.getElem?_map, e]; rfl) (by rw [← h2, hps]; rfl) hS pl
  · rw [← hps]
    exact Ev.FnOk.toW <| fnStep (free_at X G c) (int_at X G c) (fnAll (free_at X G c) (int_at X G c) (defs_ok X G c ck bd) (defs_keep X G c) n) (by rw [List.getElem?_map, e]; rfl) FD' h1 h2 h3 h4
end
end Ev

/-! EvP: lemmas to run the terms by simp. -/
namespace Ev
open PySem

/-- not by unfolding (the kernel would unfold in its own order) -/
theorem nr {α : Sort _} {a b : α} (h : a = b) : a = b := h ▸ rfl
section
variable (b : Nat) (C : CallF) (env : Vars) (h : Hq)
@[simp] theorem b_ok {α β : Type} (a : α) (h : Hq) (f : α → Hq → R β) : (R.ok a h).bind f = f a h := nr rfl
@[simp] theorem x_var (i : Nat) : evE b C (.var i) env h = (match env[i]? with
    | some (some w) => .ok w h
    | _ => .bad) := by (simp only [evE]) <;> rfl
@[simp] theorem x_glb (i : Int) : evE b C (.glb i) env h = .ok (.d (.int i)) h := by simp only [evE]
@[simp] theorem x_trg (t : Bool) (a : E) : evE b C (.trg t a) env h = (evE b C a env h).bind fun w h => match w with
    | .d (.int n) => if rgOk 0 n then .ok (.d ((if t then PyData.tuple else PyData.list) ((List.range n.toNat).map fun i => .int (i : Nat)))) h else .bad
    | _ => .bad := by (simp only [evE]) <;> rfl
@[simp] theorem x_isa (c : Ity) (a : E) : evE b C (.isa c a) env h = (evE b C a env h).bind fun w h => match toD h w with
    | some x => .ok (.d (.bool (isaD c x))) h
    | none => .bad := by (simp only [evE]) <;> rfl
@[simp] theorem x_dlg (kvs : List (Str × Int)) (k d : E) : evE b C (.dlg kvs k d) env h = (evE b C k env h).bind fun v h => (evE b C d env h).bind fun w h => match v with
    | .d (.str s) => .ok (match dlook kvs s with
      | some i => .d (.int i)
      | none => w) h
    | _ => .bad := by (simp only [evE]) <;> rfl
@[simp] theorem x_lit (c : PyData) : evE b C (.lit c) env h = .ok (.d c) h := by (simp only [evE]) <;> rfl
@[simp] theorem x_tup (es : Es) : evE b C (.tup es) env h = (evEs b C es env h).bind fun ws h => match allD ws with
    | some ds => .ok (.d (.tuple ds)) h
    | none => .bad := by (simp only [evE]) <;> rfl
@[simp] theorem x_lst (es : Es) : evE b C (.lst es) env h = (evEs b C es env h).bind fun ws h => match allD ws with
    | some ds => .ok (.d (.list ds)) h
    | none => .bad := by (simp only [evE]) <;> rfl
@[simp] theorem x_lstM (es : Es) : evE b C (.lstM es) env h = (evEs b C es env h).bind fun ws h => match allD ws with
    | some ds => .ok (.l h.length) (h ++ [.lst ds])
    | none => .bad := by (simp only [evE]) <;> rfl
@[simp] theorem x_bin (o : Operator) (x y : E) : evE b C (.bin o x y) env h = (evE b C x env h).bind fun v h => (evE b C y env h).bind fun w h => op2 (evBin o) v w h := by (simp only [evE]) <;> rfl
@[simp] theorem x_neg (x : E) : evE b C (.neg x) env h = (evE b C x env h).bind fun v h => match v with
    | .d (.int i) => .ok (.d (.int (-i))) h
    | _ => .bad := by (simp only [evE]) <;> rfl
@[simp] theorem x_nt (x : E) : evE b C (.nt x) env h = (evE b C x env h).bind fun v h => match v with
    | .d (.bool k) => .ok (.d (.bool (!k))) h
    | _ => .bad := by (simp only [evE]) <;> rfl
@[simp] theorem x_cmp (o : CmpOp) (x y : E) : evE b C (.cmp o x y) env h = (evE b C x env h).bind fun v h => (evE b C y env h).bind fun w h => op2 (evCmp o) v w h := by (simp only [evE]) <;> rfl
@[simp] theorem x_one (x : E) : evE b C (.one x) env h = evE b C x env h := by (simp only [evE]) <;> rfl
@[simp] theorem x_and (x y : E) : evE b C (.and x y) env h = (evE b C x env h).bind fun v h => match v with
    | .d (.bool true) => evE b C y env h
    | .d (.bool false) => .ok (.d (.bool false)) h
    | _ => .bad := by (simp only [evE]) <;> rfl
@[simp] theorem x_or (x y : E) : evE b C (.or x y) env h = (evE b C x env h).bind fun v h => match v with
    | .d (.bool true) => .ok (.d (.bool true)) h
    | .d (.bool false) => evE b C y env h
    | _ => .bad := by (simp only [evE]) <;> rfl
@[simp] theorem x_ife (c x y : E) : evE b C (.ife c x y) env h = (evE b C c env h).bind fun v h => match v with
    | .d (.bool true) => evE b C x env h
    | .d (.bool false) => evE b C y env h
    | _ => .bad := by (simp only [evE]) <;> rfl
@[simp] theorem x_idx (x i : E) : evE b C (.idx x i) env h = (evE b C x env h).bind fun v h => (evE b C i env h).bind fun w h => evIdx h v w := by (simp only [evE]) <;> rfl
@[simp] theorem x_slc (x : E) (lo hi : Oe) : evE b C (.slc x lo hi) env h = (evE b C x env h).bind fun v h => (evOe b C lo env h).bind fun l h => match intO l with
    | some l => (evOe b C hi env h).bind fun u h => match intO u with
      | some u => evSlc h v l u
      | none => .bad
    | none => .bad := by (simp only [evE]) <;> rfl
@[simp] theorem x_blt (f : Bt) (es : Es) : evE b C (.blt f es) env h = (evEs b C es env h).bind fun ws h => evB f ws h := by (simp only [evE]) <;> rfl
@[simp] theorem x_mth (f : Mt) (o : E) (es : Es) : evE b C (.mth f o es) env h = (evE b C o env h).bind fun w h => if recv f h w then (evEs b C es env h).bind fun ws h => evM f w ws h else .bad := by (simp only [evE]) <;> rfl
@[simp] theorem x_sset (x : E) : evE b C (.sset x) env h = (evE b C x env h).bind fun v h => match (toD h v).bind listInts with
    | some ns => if ns.length < 60 then .ok (.d (.list ((sortU ns).map .int))) h else .bad
    | none => .bad := by (simp only [evE]) <;> rfl
@[simp] theorem x_call (f : Nat) (es : Es) : evE b C (.call f es) env h = (evEs b C es env h).bind fun ws h => C b f ws h := by (simp only [evE]) <;> rfl
@[simp] theorem x_lc (k : Nat) (t : List Nat) (u : Bool) (it : It) (c : Oe) (e : E) : evE b C (.lc k t u it c e) env h = (evIt b C it env h).bind fun ws h => (noEx (lcGo (fun w h => match bindT t u w env with
      | some env => (evOe b C c env h).bind fun q h => match boolO q with
        | some true => (evE b C e env h).bind fun r h => .ok (some r) h
        | some false => .ok none h
        | none => .bad
      | none => .bad) ws h)).bind fun rs h => lcEnd k rs h := by (simp only [evE]) <;> rfl
@[simp] theorem x_nil : evEs b C .nil env h = .ok [] h := by simp only [evEs]
@[simp] theorem x_cons (e : E) (es : Es) : evEs b C (.cons e es) env h = (evE b C e env h).bind fun w h => (evEs b C es env h).bind fun ws h => .ok (w :: ws) h := by simp only [evEs]
@[simp] theorem x_none : evOe b C .none env h = .ok none h := by simp only [evOe]
@[simp] theorem x_some (e : E) : evOe b C (.some e) env h = (evE b C e env h).bind fun w h => .ok (some w) h := by simp only [evOe]
@[simp] theorem x_ite (a : E) : evIt b C (.e a) env h = (evE b C a env h).bind fun w h => match itemsOf h w with
    | some ws => .ok ws h
    | none => .bad := by (simp only [evIt]) <;> rfl
@[simp] theorem x_rg1 (a : E) : evIt b C (.rg1 a) env h = (evE b C a env h).bind fun w h => match w with
    | .d (.int n) => if rgOk 0 n then .ok (rangeUp 0 n) h else .bad
    | _ => .bad := by (simp only [evIt]) <;> rfl
@[simp] theorem x_rg2 (a c : E) : evIt b C (.rg2 a c) env h = (evE b C a env h).bind fun w h => (evE b C c env h).bind fun v h => match w, v with
    | .d (.int n), .d (.int k) => if rgOk n k then .ok (rangeUp n k) h else .bad
    | _, _ => .bad := by (simp only [evIt]) <;> rfl
@[simp] theorem x_rgd (a c : E) : evIt b C (.rgd a c) env h = (evE b C a env h).bind fun w h => (evE b C c env h).bind fun v h => match w, v with
    | .d (.int n), .d (.int k) => if rgOk k n then .ok (rangeDn n k) h else .bad
    | _, _ => .bad := by (simp only [evIt]) <;> rfl
@[simp] theorem s_asg (t : List Nat) (u : Bool) (e : E) : evS b C (.asg t u e) env h = (evE b C e env h).bind fun w h => match bindT t u w env with
    | some env => .ok (.nx env) h
    | none => .bad := by (simp only [evS]) <;> rfl
@[simp] theorem s_set (o i e : E) : evS b C (.set o i e) env h = (evE b C e env h).bind fun v h => (evE b C o env h).bind fun w h => (evE b C i env h).bind fun k h => (evSet b w k v h).bind fun _ h => .ok (.nx env) h := by (simp only [evS]) <;> rfl
@[simp] theorem s_app (o e : E) : evS b C (.app o e) env h = (evE b C o env h).bind fun w h => if recvL h w then (evE b C e env h).bind fun v h => (evApp b w v h).bind fun _ h => .ok (.nx env) h else .bad := by (simp only [evS]) <;> rfl
@[simp] theorem s_ret (e : E) : evS b C (.ret e) env h = (evE b C e env h).bind fun w h => .ok (.rt w) h := by (simp only [evS]) <;> rfl
@[simp] theorem s_retN : evS b C .retN env h = .ok (.rt (.d .none)) h := by (simp only [evS]) <;> rfl
@[simp] theorem s_ifs (c : E) (x y : Ss) : evS b C (.ifs c x y) env h = (evE b C c env h).bind fun v h => match v with
    | .d (.bool true) => evSs b C x env h
    | .d (.bool false) => evSs b C y env h
    | _ => .bad := by (simp only [evS]) <;> rfl
theorem s_for (t : List Nat) (u : Bool) (it : It) (s : Ss) : evS b C (.forS t u it s) env h = (evIt b C it env h).bind fun ws h => forGo (fun w env h => match bindT t u w env with
    | some env => evSs b C s env h
    | none => .bad) ws env h := by (simp only [evS]) <;> rfl
@[simp] theorem s_whl (n : Nat) (c : E) (s : Ss) : evS b C (.whl n c s) env h = whlGo (fun env h => evE b C c env h) (fun env h => evSs b C s env h) n env h := by (simp only [evS]) <;> rfl
@[simp] theorem s_pass : evS b C .pass env h = .ok (.nx env) h := by (simp only [evS]) <;> rfl
@[simp] theorem s_brk : evS b C .brk env h = .ok (.bk env) h := by (simp only [evS]) <;> rfl
@[simp] theorem s_cnt : evS b C .cnt env h = .ok (.ct env) h := by (simp only [evS]) <;> rfl
@[simp] theorem s_frz (i : Nat) : evS b C (.frz i) env h = evFrz i env h := by (simp only [evS]) <;> rfl
@[simp] theorem s_nil : evSs b C .nil env h = .ok (.nx env) h := by (simp only [evSs]) <;> rfl
@[simp] theorem s_cons (s : S) (ss : Ss) : evSs b C (.cons s ss) env h = (evS b C s env h).bind fun q h => match q with
    | .nx env => evSs b C ss env h
    | q => .ok q h := by (simp only [evSs]) <;> rfl
end
/-- a def's body, its end -/
def finR (tr : Bool) (n : Nat) : R Fl → R W
  | .ok (.nx _) h' => fin tr n (.d .none) h'
  | .ok (.rt w) h' => fin tr n w h'
  | .ok _ _ => .bad
  | .ex c ds h' => .ex c ds (if tr then h'.take n else h')
  | .bad => .bad
theorem call_of {T : List FD} {n b f : Nat} {fd : FD} (ws : List W) (h : Hq) (e : T[f]? = some fd) (l : ws.length = fd.np) :
    callN T (n + 1) b f ws h = finR fd.tr h.length (evSs (if fd.tr then h.length else b) (callN T n) fd.body (ws.map some ++ List.replicate (fd.ns - fd.np) none) h) := by
  simp only [callN, e, runF, if_pos l]
  cases evSs (if fd.tr then h.length else b) (callN T n) fd.body (ws.map some ++ List.replicate (fd.ns - fd.np) none) h with
  | ok f h => cases f <;> rfl
  | ex _ _ _ => rfl
  | bad => rfl
@[simp] theorem finR_rt {tr : Bool} {n : Nat} {w : W} {h : Hq} : finR tr n (.ok (.rt w) h) = fin tr n w h := nr rfl
@[simp] theorem finR_nx {tr : Bool} {n : Nat} {w : Vars} {h : Hq} : finR tr n (.ok (.nx w) h) = fin tr n (.d .none) h := nr rfl
@[simp] theorem fin_f {n : Nat} {w : W} {h : Hq} : fin false n w h = .ok w h := nr rfl
@[simp] theorem fin_t {n : Nat} {x : PyData} {h : Hq} : fin true n (.d x) h = .ok (.d x) (h.take n) := nr rfl

/-- a loop that runs to its end -/
theorem forGo_ok {f : W → Vars → Hq → R Fl} (I : Nat → Vars → Hq → Prop) : ∀ (ws : List W) (k : Nat) (env : Vars) (h : Hq), I k env h → (∀ j w env h, ws[j]? = some w → I (k + j) env h → ∃ env' h', f w env h = .ok (.nx env') h' ∧ I (k + j + 1) env' h') →
    ∃ env' h', forGo f ws env h = .ok (.nx env') h' ∧ I (k + ws.length) env' h'
  | [], k, env, h, i, _ => ⟨env, h, rfl, i⟩
  | w :: ws, k, env, h, i, st => by
    obtain ⟨env1, h1, e1, i1⟩ := st 0 w env h rfl i
    obtain ⟨env2, h2, e2, i2⟩ := forGo_ok I ws (k + 1) env1 h1 (by simpa using i1) (fun j w env h e i => by
      have := st (j + 1) w env h (by simpa using e) (by rw [show k + (j + 1) = k + 1 + j by omega]; exact i)
      rw [show k + 1 + j + 1 = k + (j + 1) + 1 by omega]
      exact this)
    refine ⟨env2, h2, ?_, by rw [List.length_cons, show k + (ws.length + 1) = k + 1 + ws.length by omega]; exact i2⟩
    simp only [forGo, e1, b_ok, e2]
/-- the same, the place not asked -/
theorem forGo_inv {f : W → Vars → Hq → R Fl} (I : Vars → Hq → Prop) (ws : List W) (env : Vars) (h : Hq) (i : I env h) (st : ∀ w env h, w ∈ ws → I env h → ∃ env' h', f w env h = .ok (.nx env') h' ∧ I env' h') :
    ∃ env' h', forGo f ws env h = .ok (.nx env') h' ∧ I env' h' :=
  forGo_ok (fun _ => I) ws 0 env h i fun j w env h e i => st w env h (List.mem_of_getElem? e) i
/-- a comprehension whose turns leave the heap alone -/
theorem lcGo_pure {f : W → Hq → R (Option W)} {h : Hq} (g : W → Option W) : ∀ (ws : List W), (∀ w ∈ ws, f w h = .ok (g w) h) → lcGo f ws h = .ok (ws.filterMap g) h
  | [], _ => rfl
  | w :: ws, e => by
    simp only [lcGo, e w List.mem_cons_self, b_ok, lcGo_pure g ws fun w hw => e w (List.mem_cons_of_mem _ hw), List.filterMap_cons]
    cases g w <;> rfl
theorem rangeUp_at {lo hi : Int} {j : Nat} {w : W} (e : (rangeUp lo hi)[j]? = some w) : w = .d (.int (lo + j)) ∧ (j : Int) < hi - lo := by
  unfold rangeUp at e
  rw [List.getElem?_map] at e
  cases q : (List.range (hi - lo).toNat)[j]? with
  | none => rw [q] at e; cases e
  | some i =>
    rw [q] at e
    cases e
    obtain ⟨l, rfl⟩ := List.getElem?_eq_some_iff.mp q
    simp only [List.length_range] at l
    simp only [List.getElem_range, true_and]
    omega
theorem rangeUp_mem {lo hi : Int} {w : W} (e : w ∈ rangeUp lo hi) : ∃ i : Int, w = .d (.int i) ∧ lo ≤ i ∧ i < hi := by
  obtain ⟨j, e⟩ := List.getElem?_of_mem e
  obtain ⟨e1, e2⟩ := rangeUp_at e
  exact ⟨_, e1, by omega, by omega⟩
@[simp] theorem rangeUp_len {lo hi : Int} : (rangeUp lo hi).length = (hi - lo).toNat := by unfold rangeUp; simp
theorem rg_of {lo hi : Int} (h1 : -1000000 ≤ lo) (h2 : lo ≤ 1000000) (h3 : -1000000 ≤ hi) (h4 : hi ≤ 1000000) : rgOk lo hi = true := by
  unfold rgOk
  rw [decide_eq_true_eq]
  omega
@[simp] theorem last_at {t : Hq} {o : Ob} : (t ++ [o])[t.length]? = some o := by simp
@[simp] theorem last_set {t : Hq} {o o' : Ob} : (t ++ [o]).set t.length o' = t ++ [o'] := by simp
@[simp] theorem last_take {t : Hq} {o : Ob} : (t ++ [o]).take t.length = t := by simp
theorem whl_step {c : Vars → Hq → R W} {f : Vars → Hq → R Fl} {n : Nat} {env env' : Vars} {h h1 h' : Hq} (e1 : c env h = .ok (.d (.bool true)) h1) (e2 : f env h1 = .ok (.nx env') h') : whlGo c f (n + 1) env h = whlGo c f n env' h' := by simp only [whlGo, e1, b_ok, e2]
theorem whl_end {c : Vars → Hq → R W} {f : Vars → Hq → R Fl} {n : Nat} {env : Vars} {h h1 : Hq} (e1 : c env h = .ok (.d (.bool false)) h1) : whlGo c f (n + 1) env h = .ok (.nx env) h1 := by simp only [whlGo, e1, b_ok]
theorem whl_ret {c : Vars → Hq → R W} {f : Vars → Hq → R Fl} {n : Nat} {env : Vars} {w : W} {h h1 h' : Hq} (e1 : c env h = .ok (.d (.bool true)) h1) (e2 : f env h1 = .ok (.rt w) h') : whlGo c f (n + 1) env h = .ok (.rt w) h' := by simp only [whlGo, e1, b_ok, e2]
end Ev

/-! EvP2: lemmas on values, to run the terms by simp. -/
namespace Ev
open PySem

section
variable {h : Hq} {i j : Int} {x y : PyData} {xs ys : List PyData} {n : Nat} {w : W} {ws : List W}
@[simp] theorem op2_d {f : PyData → PyData → Option PyData} : op2 f (.d x) (.d y) h = liftO (f x y) h := nr rfl
@[simp] theorem liftO_s : liftO (some x) h = .ok (.d x) h := nr rfl
@[simp] theorem toD_d : toD h (.d x) = some x := nr rfl
theorem toD_l (e : h[n]? = some (.lst xs)) : toD h (.l n) = some (.list xs) := by simp only [toD, e]
theorem op2_dl {f : PyData → PyData → Option PyData} (e : h[n]? = some (.lst xs)) : op2 f (.d x) (.l n) h = liftO (f x (.list xs)) h := by unfold op2; rw [toD_l e]; rfl
@[simp] theorem add_i : evBin .Add (.int i) (.int j) = some (.int (i + j)) := nr rfl
@[simp] theorem sub_i : evBin .Sub (.int i) (.int j) = some (.int (i - j)) := nr rfl
theorem mul_i (e : sOk i j = true) : evBin .Mult (.int i) (.int j) = some (.int (i * j)) := by simp only [evBin, e, if_true]
theorem sOk_r (h1 : -1000000000000 ≤ j) (h2 : j ≤ 1000000000000) : sOk i j = true := by unfold sOk; rw [decide_eq_true_eq]; omega
theorem sOk_l (h1 : -1000000000000 ≤ i) (h2 : i ≤ 1000000000000) : sOk i j = true := by unfold sOk; rw [decide_eq_true_eq]; omega
theorem div_i (e : divOk j = true) : evBin .FloorDiv (.int i) (.int j) = some (.int (i.fdiv j)) := by simp only [evBin, e, if_true]
theorem divOk_of (h1 : 0 < j) (h2 : j ≤ 1000000) : divOk j = true := by unfold divOk; rw [decide_eq_true_eq]; omega
theorem mod_i (e : j ≠ 0) : evBin .Mod (.int i) (.int j) = some (.int (i.fmod j)) := by simp only [evBin]; rw [if_pos e]
@[simp] theorem div_k (h1 : 0 < j) (h2 : j ≤ 1000000) : evBin .FloorDiv (.int i) (.int j) = some (.int (i.fdiv j)) := div_i (divOk_of h1 h2)
@[simp] theorem mod_k (h1 : 0 < j) : evBin .Mod (.int i) (.int j) = some (.int (i.fmod j)) := mod_i (Int.ne_of_gt h1)
@[simp] theorem mul_r (h1 : -1000000000000 ≤ j) (h2 : j ≤ 1000000000000) : evBin .Mult (.int i) (.int j) = some (.int (i * j)) := mul_i (sOk_r h1 h2)
@[simp] theorem mul_l (h1 : -1000000000000 ≤ i) (h2 : i ≤ 1000000000000) : evBin .Mult (.int i) (.int j) = some (.int (i * j)) := mul_i (sOk_l h1 h2)
@[simp] theorem pow_18 : evBin .Pow (.int 10) (.int 18) = some (.int 1000000000000000000) := nr rfl
@[simp] theorem lt_i : evCmp .Lt (.int i) (.int j) = some (.bool (decide (i < j))) := nr rfl
@[simp] theorem le_i : evCmp .LtE (.int i) (.int j) = some (.bool (decide (i ≤ j))) := nr rfl
@[simp] theorem gt_i : evCmp .Gt (.int i) (.int j) = some (.bool (decide (j < i))) := nr rfl
@[simp] theorem ge_i : evCmp .GtE (.int i) (.int j) = some (.bool (decide (j ≤ i))) := nr rfl
@[simp] theorem dpt_i : dpt (.int i) = true := nr rfl
@[simp] theorem dpt_b {k : Bool} : dpt (.bool k) = true := nr rfl
@[simp] theorem dpt_n : dpt .none = true := nr rfl
@[simp] theorem dpt_s {s : Str} : dpt (.str s) = true := nr rfl
@[simp] theorem eq_d (e : (dpt x || dpt y) = true) : evCmp .Eq x y = some (.bool (PyData.eqv x y)) := by simp only [evCmp, e, if_true]
@[simp] theorem ne_d (e : (dpt x || dpt y) = true) : evCmp .NotEq x y = some (.bool (!PyData.eqv x y)) := by simp only [evCmp, e, if_true]
@[simp] theorem eqv_i : PyData.eqv (.int i) (.int j) = decide (i = j) := by simp only [PyData.eqv]; exact rfl
@[simp] theorem eqv_s {s t : Str} : PyData.eqv (.str s) (.str t) = decide (s = t) := by simp only [PyData.eqv]; exact rfl
@[simp] theorem in_l (e : dpt x = true) : evCmp .In x (.list ys) = some (.bool (ys.any fun y => PyData.eqv y x)) := by simp only [evCmp, e, if_true]
@[simp] theorem in_t (e : dpt x = true) : evCmp .In x (.tuple ys) = some (.bool (ys.any fun y => PyData.eqv y x)) := by simp only [evCmp, e, if_true]
@[simp] theorem nin_l (e : dpt x = true) : evCmp .NotIn x (.list ys) = some (.bool (!ys.any fun y => PyData.eqv y x)) := by simp only [evCmp, e, if_true]
@[simp] theorem nin_t (e : dpt x = true) : evCmp .NotIn x (.tuple ys) = some (.bool (!ys.any fun y => PyData.eqv y x)) := by simp only [evCmp, e, if_true]
theorem atZ_nat {α : Type} {l : List α} {k : Nat} : atZ l (k : Int) = l[k]? := by
  unfold atZ L2.atI L2.ixN
  by_cases hk : k < l.length
  · rw [if_pos (by omega), if_pos (by omega)]; simp
  · rw [if_pos (by omega), if_neg (by omega), List.getElem?_eq_none (by omega)]; rfl
theorem atZ_int {α : Type} {l : List α} {k : Int} (e : 0 ≤ k) : atZ l k = l[k.toNat]? := by
  obtain ⟨m, rfl⟩ := Int.eq_ofNat_of_zero_le e
  exact atZ_nat
@[simp] theorem atZ_0 {α : Type} {l : List α} : atZ l 0 = l[0]? := atZ_nat (k := 0)
@[simp] theorem atZ_1 {α : Type} {l : List α} : atZ l 1 = l[1]? := atZ_nat (k := 1)
@[simp] theorem atZ_2 {α : Type} {l : List α} : atZ l 2 = l[2]? := atZ_nat (k := 2)
@[simp] theorem atZ_3 {α : Type} {l : List α} : atZ l 3 = l[3]? := atZ_nat (k := 3)
@[simp] theorem idx_l : evIdx h (.d (.list xs)) (.d (.int i)) = liftO (atZ xs i) h := nr rfl
@[simp] theorem idx_t : evIdx h (.d (.tuple xs)) (.d (.int i)) = liftO (atZ xs i) h := nr rfl
theorem idx_o (e : h[n]? = some (.lst xs)) : evIdx h (.l n) (.d (.int i)) = liftO (atZ xs i) h := by simp only [evIdx, e]
@[simp] theorem idx_o0 {t : Hq} : evIdx (.lst xs :: t) (.l 0) (.d (.int i)) = liftO (atZ xs i) (.lst xs :: t) := idx_o rfl
theorem set_o (e : h[n]? = some (.lst xs)) {k : Nat} (ek : L2.ixN xs.length i = some k) {b : Nat} : evSet b (.l n) (.d (.int i)) (.d x) h = .ok () (h.set n (.lst (xs.set k x))) := by simp only [evSet, e, ek]
@[simp] theorem set_b {t : Hq} {b : Nat} : evSet b (.l 0) (.d (.int 1)) (.d x) (.lst [y, w'] :: t) = .ok () (.lst [y, x] :: t) := nr rfl
@[simp] theorem len_l : evB .len [.d (.list xs)] h = .ok (.d (.int xs.length)) h := nr rfl
@[simp] theorem len_t : evB .len [.d (.tuple xs)] h = .ok (.d (.int xs.length)) h := nr rfl
theorem len_o (e : h[n]? = some (.lst xs)) : evB .len [.l n] h = .ok (.d (.int xs.length)) h := by simp only [evB, evLen, e]
@[simp] theorem int_i : evB .int [.d (.int i)] h = .ok (.d (.int i)) h := nr rfl
@[simp] theorem int_b {k : Bool} : evB .int [.d (.bool k)] h = .ok (.d (.int (if k then 1 else 0))) h := nr rfl
@[simp] theorem tup_l : evB .tuple [.d (.list xs)] h = .ok (.d (.tuple xs)) h := nr rfl
@[simp] theorem tup_t : evB .tuple [.d (.tuple xs)] h = .ok (.d (.tuple xs)) h := nr rfl
theorem tup_o (e : h[n]? = some (.lst xs)) : evB .tuple [.l n] h = .ok (.d (.tuple xs)) h := by simp only [evB, toD, e]; rfl
theorem app_o {b : Nat} (e : h[n]? = some (.lst xs)) (hl : xs.length < 1000000) : evApp b (.l n) (.d x) h = .ok () (h.set n (.lst (xs ++ [x]))) := by
  simp only [evApp, e]
  rw [if_pos (by unfold SZ; omega)]
theorem recvL_o (e : h[n]? = some (.lst xs)) : recvL h (.l n) = true := by simp only [recvL, e]
@[simp] theorem it_l : itemsOf h (.d (.list xs)) = some (xs.map .d) := nr rfl
@[simp] theorem it_t : itemsOf h (.d (.tuple xs)) = some (xs.map .d) := nr rfl
@[simp] theorem bind_1 {k : Nat} {env : Vars} : bindT [k] false w env = some (env.set k (some w)) := nr rfl
@[simp] theorem allD_0 : allD [] = some [] := nr rfl
@[simp] theorem allD_c : allD (.d x :: ws) = (allD ws).map (x :: ·) := nr rfl
theorem allD_map : allD (xs.map .d) = some xs := by
  induction xs with
  | nil => rfl
  | cons x xs ih => simp only [List.map_cons, allD, ih]; rfl
@[simp] theorem c_at {o o' : Ob} {t : Hq} : (o :: (t ++ [o']))[t.length + 1]? = some o' := by simp
@[simp] theorem noEx_ok {α : Type} {a : α} : noEx (.ok a h) = .ok a h := nr rfl
theorem allD_mapf {α : Type} {g : α → PyData} : ∀ l : List α, allD (l.map fun x => W.d (g x)) = some (l.map g)
  | [] => rfl
  | x :: l => by simp only [List.map_cons, allD, allD_mapf l]; rfl
theorem allD_comp {α : Type} {g : α → PyData} (l : List α) : allD (l.map (W.d ∘ g)) = some (l.map g) := allD_mapf l
theorem lcEnd_0 {ds : List PyData} (e : allD ws = some ds) : lcEnd 0 ws h = .ok (.d (.list ds)) h := by simp only [lcEnd, e]
@[simp] theorem lcEnd_m {α : Type} {g : α → PyData} {l : List α} : lcEnd 0 (l.map fun x => W.d (g x)) h = .ok (.d (.list (l.map g))) h := lcEnd_0 (allD_mapf l)
@[simp] theorem lcEnd_c {α : Type} {g : α → PyData} {l : List α} : lcEnd 0 (l.map (W.d ∘ g)) h = .ok (.d (.list (l.map g))) h := lcEnd_0 (allD_mapf l)
@[simp] theorem boolO_n : boolO none = some true := nr rfl
@[simp] theorem boolO_b {k : Bool} : boolO (some (.d (.bool k))) = some k := nr rfl
/-- a comprehension that filters -/
theorem lc_filter {α : Type} {f : W → Hq → R (Option W)} {emb : α → W} {g : α → W} {p : α → Bool} : ∀ (l : List α), (∀ x ∈ l, f (emb x) h = .ok (if p x then some (g x) else none) h) → lcGo f (l.map emb) h = .ok ((l.filter p).map g) h
  | [], _ => rfl
  | x :: l, e => by
    simp only [List.map_cons, lcGo, e x List.mem_cons_self, b_ok, lc_filter l fun y hy => e y (List.mem_cons_of_mem _ hy), List.filter_cons]
    cases p x <;> rfl
/-- a comprehension that maps -/
theorem lc_map {α : Type} {f : W → Hq → R (Option W)} {emb : α → W} {g : α → W} : ∀ (l : List α), (∀ x ∈ l, f (emb x) h = .ok (some (g x)) h) → lcGo f (l.map emb) h = .ok (l.map g) h
  | [], _ => rfl
  | x :: l, e => by
    simp only [List.map_cons, lcGo, e x List.mem_cons_self, b_ok, lc_map l fun y hy => e y (List.mem_cons_of_mem _ hy)]
@[simp] theorem any_int {l : List Int} : ((l.map PyData.int).any fun y => PyData.eqv y (.int i)) = decide (i ∈ l) := by
  rw [Bool.eq_iff_iff]
  simp
@[simp] theorem any_str {l : List Str} {s : Str} : ((l.map PyData.str).any fun y => PyData.eqv y (.str s)) = decide (s ∈ l) := by
  rw [Bool.eq_iff_iff]
  simp
@[simp] theorem any_int' {l : List Int} : (l.any ((fun y => PyData.eqv y (.int i)) ∘ PyData.int)) = decide (i ∈ l) := by
  rw [Bool.eq_iff_iff]
  simp
@[simp] theorem any_str' {l : List Str} {s : Str} : (l.any ((fun y => PyData.eqv y (.str s)) ∘ PyData.str)) = decide (s ∈ l) := by
  rw [Bool.eq_iff_iff]
  simp
theorem cutL_map {α β : Type} {f : α → β} {l : List α} {lo hi : Option Int} : cutL (l.map f) lo hi = (cutL l lo hi).map f := by simp [cutL]
theorem cutL_sub {α : Type} {l : List α} {lo hi : Option Int} : (cutL l lo hi).Sublist l := (List.take_sublist _ _).trans (List.drop_sublist _ _)
@[simp] theorem slc_l {lo hi : Option Int} : evSlc h (.d (.list xs)) lo hi = .ok (.d (.list (cutL xs lo hi))) h := nr rfl
@[simp] theorem slc_t {lo hi : Option Int} : evSlc h (.d (.tuple xs)) lo hi = .ok (.d (.tuple (cutL xs lo hi))) h := nr rfl
@[simp] theorem intO_n : intO none = some none := nr rfl
@[simp] theorem intO_i : intO (some (.d (.int i))) = some (some i) := nr rfl
theorem intsOf_map : ∀ l : List Int, intsOf (l.map .int) = some l
  | [] => rfl
  | x :: l => by simp only [List.map_cons, intsOf, intsOf_map l]; rfl
@[simp] theorem add_l (e : xs.length + ys.length ≤ 1000000) : evBin .Add (.list xs) (.list ys) = some (.list (xs ++ ys)) := by simp only [evBin]; rw [if_pos (by unfold SZ; omega)]
@[simp] theorem add_t (e : xs.length + ys.length ≤ 1000000) : evBin .Add (.tuple xs) (.tuple ys) = some (.tuple (xs ++ ys)) := by simp only [evBin]; rw [if_pos (by unfold SZ; omega)]
@[simp] theorem add_s {s t : Str} (e : s.length + t.length ≤ 1000000) : evBin .Add (.str s) (.str t) = some (.str (s ++ t)) := by simp only [evBin]; rw [if_pos (by unfold SZ; omega)]
@[simp] theorem listInts_m {l : List Int} : listInts (.list (l.map .int)) = some l := intsOf_map l
theorem sorted_o {l : List Int} (e : h[n]? = some (.lst (l.map .int))) : evB .sorted [.l n] h = .ok (.d (.list ((sortI l).map .int))) h := by
  simp only [evB, toD_l e, Option.bind_some, listInts_m, Option.map_some, liftO_s]
@[simp] theorem sorted_d {l : List Int} : evB .sorted [.d (.list (l.map .int))] h = .ok (.d (.list ((sortI l).map .int))) h := by
  simp only [evB, toD_d, Option.bind_some, listInts_m, Option.map_some, liftO_s]
@[simp] theorem mem_sortI {l : List Int} : i ∈ sortI l ↔ i ∈ l := by simp [sortI]
theorem rangeDn_at {lo hi : Int} {j : Nat} {w : W} (e : (rangeDn hi lo)[j]? = some w) : w = .d (.int (hi - j)) ∧ (j : Int) < hi - lo := by
  unfold rangeDn at e
  rw [List.getElem?_map] at e
  cases q : (List.range (hi - lo).toNat)[j]? with
  | none => rw [q] at e; cases e
  | some i =>
    rw [q] at e
    cases e
    obtain ⟨l, rfl⟩ := List.getElem?_eq_some_iff.mp q
    simp only [List.length_range] at l
    simp only [List.getElem_range, true_and]
    omega
@[simp] theorem rangeDn_len {lo hi : Int} : (rangeDn hi lo).length = (hi - lo).toNat := by unfold rangeDn; simp
theorem eqvAll_ints : ∀ {l l' : List Int}, PyData.eqvAll (l.map .int) (l'.map .int) = decide (l = l')
  | [], [] => by simp [PyData.eqvAll]
  | [], _ :: _ => by simp [PyData.eqvAll]
  | _ :: _, [] => by simp [PyData.eqvAll]
  | x :: l, y :: l' => by
    simp only [List.map_cons, PyData.eqvAll, eqv_i, eqvAll_ints]
    by_cases h : x = y <;> simp [h]
@[simp] theorem eqv_ti {l l' : List Int} : PyData.eqv (.tuple (l.map .int)) (.tuple (l'.map .int)) = decide (l = l') := by simp only [PyData.eqv, eqvAll_ints]
@[simp] theorem eqv_li {l l' : List Int} : PyData.eqv (.list (l.map .int)) (.list (l'.map .int)) = decide (l = l') := by simp only [PyData.eqv, eqvAll_ints]
theorem depthAll_ints : ∀ {l : List Int}, PyData.depthAll (l.map .int) ≤ 1
  | [] => by simp [PyData.depthAll]
  | x :: l => by
    have := depthAll_ints (l := l)
    simp only [List.map_cons, PyData.depthAll, PyData.depth]
    omega
@[simp] theorem dpt_ti {l : List Int} : dpt (.tuple (l.map .int)) = true := by
  unfold dpt
  have := depthAll_ints (l := l)
  refine decide_eq_true ?_
  simp only [PyData.depth]
  omega
@[simp] theorem dpt_li {l : List Int} : dpt (.list (l.map .int)) = true := by
  unfold dpt
  have := depthAll_ints (l := l)
  refine decide_eq_true ?_
  simp only [PyData.depth]
  omega
@[simp] theorem dpt_l0 : dpt (.list []) = true := dpt_li (l := [])
@[simp] theorem eqv_l0 {l : List PyData} : PyData.eqv (.list l) (.list []) = l.isEmpty := by cases l <;> simp [PyData.eqv, PyData.eqvAll]
@[simp] theorem listInts_f {α : Type} {l : List α} {f : α → Int} : listInts (.list (l.map fun a => .int (f a))) = some (l.map f) := by
  have := intsOf_map (l.map f)
  rw [List.map_map] at this
  exact this
theorem cut_take {α : Type} {l : List α} {k : Nat} : cutL l none (some (k : Int)) = l.take k := by
  unfold cutL
  rw [HT.sIx_none, HT.sIx_nat]
  simp
/-- a loop that may return v -/
theorem forGo_all {f : W → Vars → Hq → R Fl} (I : Vars → Prop) (p : W → Bool) (v : W) : ∀ (ws : List W) (env : Vars), I env →
    (∀ w env, w ∈ ws → I env → (p w = true → ∃ env', f w env h = .ok (.nx env') h ∧ I env') ∧ (p w = false → f w env h = .ok (.rt v) h)) →
    (ws.all p = true → ∃ env', forGo f ws env h = .ok (.nx env') h ∧ I env') ∧ (ws.all p = false → forGo f ws env h = .ok (.rt v) h)
  | [], env, i, _ => ⟨fun _ => ⟨env, rfl, i⟩, fun z => by simp at z⟩
  | w :: ws, env, i, st => by
    obtain ⟨s1, s2⟩ := st w env List.mem_cons_self i
    cases e : p w with
    | false =>
      refine ⟨fun z => by simp [e] at z, fun _ => ?_⟩
      simp only [forGo, s2 e, b_ok]
    | true =>
      obtain ⟨env', e1, i1⟩ := s1 e
      obtain ⟨t1, t2⟩ := forGo_all I p v ws env' i1 fun w env hw => st w env (List.mem_cons_of_mem _ hw)
      simp only [List.all_cons, e, Bool.true_and]
      refine ⟨fun z => ?_, fun z => ?_⟩
      · obtain ⟨env2, e2, i2⟩ := t1 z
        exact ⟨env2, by simp only [forGo, e1, b_ok, e2], i2⟩
      · simp only [forGo, e1, b_ok, t2 z]
end
end Ev

namespace Ev
open PySem PySem.Spec L2
def f_counts_of : FD := ⟨2, 5, false, (.cons (.asg [2] false (.lc 0 [3, 4] true (.e (.var 0)) (.some (.cmp .Eq (.var 4) (.var 1))) (.var 3))) (.cons (.ret (.tup (.cons (.mth .count (.var 2) (.cons (.lit (.str "works")) .nil)) (.cons (.mth .count (.var 2) (.cons (.lit (.str "broken")) .nil)) .nil)))) .nil))⟩
def n_counts_of : List Str := ["answers", "make", "told", "kind", "index"]
def settled_b2 : Ss := (.cons (.ret (.lit (.str "works"))) .nil)
def settled_b1 : Ss := (.cons (.ret (.lit (.str "broken"))) .nil)
def settled_b0 : Ss := (.cons (.ret (.lit (.str "both"))) .nil)
def f_settled : FD := ⟨4, 7, false, (.cons (.asg [4, 5] true (.call 0 (.cons (.var 0) (.cons (.var 1) .nil)))) (.cons (.asg [6] false (.ife (.cmp .Eq (.var 3) (.lit (.str "two"))) (.cmp .Gt (.var 5) (.var 2)) (.cmp .Gt (.var 5) (.lit (.int 0))))) (.cons (.ifs (.and (.var 6) (.one (.cmp .Gt (.var 4) (.var 2)))) settled_b0 .nil) (.cons (.ifs (.var 6) settled_b1 .nil) (.cons (.ifs (.cmp .Gt (.var 4) (.var 2)) settled_b2 .nil) (.cons (.ret (.lit (.str ""))) .nil))))))⟩
def n_settled : List Str := ["answers", "make", "k", "rule", "works", "broken", "is_broken"]
def place_in_b1 : Ss := (.cons (.ret (.var 0)) .nil)
def place_in_b0 : Ss := (.cons (.asg [4] false (.call 1 (.cons (.var 1) (.cons (.idx (.var 0) (.lit (.int 1))) (.cons (.var 2) (.cons (.var 3) .nil)))))) (.cons (.ifs (.cmp .Eq (.var 4) (.lit (.str ""))) place_in_b1 .nil) (.cons (.asg [0] false (.ife (.cmp .Eq (.var 4) (.lit (.str "works"))) (.idx (.var 0) (.lit (.int 3))) (.idx (.var 0) (.lit (.int 2))))) .nil)))
def f_place_in : FD := ⟨4, 5, false, (.cons (.whl 1000 (.cmp .Eq (.idx (.var 0) (.lit (.int 0))) (.lit (.str "ask"))) place_in_b0) (.cons (.ret (.var 0)) .nil))⟩
def n_place_in : List Str := ["tree", "answers", "k", "rule", "told"]
def f_next_make : FD := ⟨4, 5, false, (.cons (.asg [4] false (.call 2 (.cons (.var 0) (.cons (.var 1) (.cons (.var 2) (.cons (.var 3) .nil)))))) (.cons (.ret (.ife (.cmp .Eq (.idx (.var 4) (.lit (.int 0))) (.lit (.str "ask"))) (.idx (.var 4) (.lit (.int 1))) (.neg (.lit (.int 1))))) .nil))⟩
def n_next_make : List Str := ["tree", "answers", "k", "rule", "part"]
def told_class_b0 : Ss := (.cons (.ret (.neg (.lit (.int 1)))) .nil)
def f_told_class : FD := ⟨4, 5, false, (.cons (.asg [4] false (.call 2 (.cons (.var 0) (.cons (.var 1) (.cons (.var 2) (.cons (.var 3) .nil)))))) (.cons (.ifs (.cmp .Eq (.idx (.var 4) (.lit (.int 0))) (.lit (.str "ask"))) told_class_b0 .nil) (.cons (.ret (.ife (.cmp .Eq (.idx (.var 4) (.lit (.int 0))) (.lit (.str "found"))) (.idx (.var 4) (.lit (.int 1))) (.neg (.lit (.int 2))))) .nil)))⟩
def n_told_class : List Str := ["tree", "answers", "k", "rule", "part"]
def still_needed_b0 : Ss := (.cons (.ret (.lit (.int 0))) .nil)
def f_still_needed : FD := ⟨4, 8, false, (.cons (.asg [4] false (.call 2 (.cons (.var 0) (.cons (.var 1) (.cons (.var 2) (.cons (.var 3) .nil)))))) (.cons (.ifs (.cmp .NotEq (.idx (.var 4) (.lit (.int 0))) (.lit (.str "ask"))) still_needed_b0 .nil) (.cons (.asg [5, 6] true (.call 0 (.cons (.var 1) (.cons (.idx (.var 4) (.lit (.int 1))) .nil)))) (.cons (.asg [7] false (.ife (.cmp .Eq (.var 3) (.lit (.str "two"))) (.bin .Sub (.bin .Sub (.bin .Add (.bin .Mult (.lit (.int 2)) (.var 2)) (.lit (.int 1))) (.var 5)) (.var 6)) (.bin .Sub (.bin .Add (.var 2) (.lit (.int 1))) (.var 5)))) (.cons (.ret (.bin .Add (.var 7) (.blt .max (.cons (.call 5 (.cons (.idx (.var 4) (.lit (.int 2))) (.cons (.var 1) (.cons (.var 2) (.cons (.var 3) .nil))))) (.cons (.call 5 (.cons (.idx (.var 4) (.lit (.int 3))) (.cons (.var 1) (.cons (.var 2) (.cons (.var 3) .nil))))) .nil))))) .nil)))))⟩
def n_still_needed : List Str := ["tree", "answers", "k", "rule", "part", "works", "broken", "more"]
def law_cell_b0 : Ss := (.cons (.ret (.idx (.var 0) (.var 1))) .nil)
def f_law_cell : FD := ⟨2, 2, false, (.cons (.ifs (.cmp .Lt (.var 1) (.blt .len (.cons (.var 0) .nil))) law_cell_b0 .nil) (.cons (.ret (.lit (.int 0))) .nil))⟩
def n_law_cell : List Str := ["_law_script", "_law_k"]
def law_digits_b6 : Ss := (.cons (.asg [7] false (.bin .Mod (.blt .int (.cons (.bin .Add (.bin .Add (.bin .Mult (.var 7) (.lit (.int 16807))) (.bin .Mult (.lit (.int 7)) (.var 6))) (.lit (.int 1))) .nil)) (.lit (.int 2147483647)))) (.cons (.app (.var 3) (.bin .Mod (.blt .int (.cons (.bin .FloorDiv (.var 7) (.lit (.int 997))) .nil)) (.lit (.int 1000)))) .nil))
def law_digits_b5 : Ss := (.cons (.asg [7] false (.bin .Mod (.blt .int (.cons (.bin .Add (.bin .Add (.bin .Mult (.var 5) (.lit (.int 48271))) (.bin .Mult (.var 4) (.lit (.int 69621)))) (.lit (.int 11))) .nil)) (.lit (.int 2147483647)))) (.cons (.forS [6] false (.rg1 (.lit (.int 12))) law_digits_b6) .nil))
def law_digits_b4 : Ss := (.cons (.app (.var 3) (.bin .Mod (.blt .int (.cons (.var 5) .nil)) (.lit (.int 1000)))) (.cons (.asg [5] false (.bin .FloorDiv (.var 5) (.lit (.int 1000)))) .nil))
def law_digits_b3 : Ss := (.cons (.ifs (.cmp .Gt (.var 5) (.lit (.int 0))) law_digits_b4 .nil) .nil)
def law_digits_b2 : Ss := (.cons (.forS [6] false (.rg1 (.lit (.int 60))) law_digits_b3) .nil)
def law_digits_b1 : Ss := (.cons (.asg [5] false (.bin .Sub (.lit (.int 1)) (.bin .Mult (.lit (.int 2)) (.var 5)))) .nil)
def law_digits_b0 : Ss := (.cons (.asg [5] false (.call 6 (.cons (.var 0) (.cons (.var 4) .nil)))) (.cons (.ifs (.cmp .Lt (.var 5) (.lit (.int 0))) law_digits_b1 .nil) (.cons (.ifs (.cmp .GtE (.var 5) (.bin .Pow (.lit (.int 10)) (.lit (.int 18)))) law_digits_b2 law_digits_b5) .nil)))
def f_law_digits : FD := ⟨3, 8, true, (.cons (.asg [3] false (.lstM .nil)) (.cons (.forS [4] false (.rg2 (.var 1) (.var 2)) law_digits_b0) (.cons (.frz 3) (.cons (.ret (.var 3)) .nil))))⟩
def n_law_digits : List Str := ["_law_script", "_law_first", "_law_last", "_law_digits_here", "_law_k", "_law_cell_here", "_law_turn", "_law_seed"]
def law_draw_b0 : Ss := (.cons (.ret (.bin .Mod (.blt .int (.cons (.idx (.idx (.var 0) (.lit (.int 0))) (.var 2)) .nil)) (.var 1))) .nil)
def f_law_draw : FD := ⟨2, 3, false, (.cons (.asg [2] false (.idx (.var 0) (.lit (.int 1)))) (.cons (.set (.var 0) (.lit (.int 1)) (.bin .Add (.var 2) (.lit (.int 1)))) (.cons (.ifs (.cmp .Lt (.var 2) (.blt .len (.cons (.idx (.var 0) (.lit (.int 0))) .nil))) law_draw_b0 .nil) (.cons (.ret (.lit (.int 0))) .nil))))⟩
def n_law_draw : List Str := ["_law_box", "_law_many", "_law_at"]
def f_law_pick : FD := ⟨2, 2, false, (.cons (.ret (.idx (.var 1) (.bin .Mod (.blt .int (.cons (.call 8 (.cons (.var 0) (.cons (.lit (.int 900)) .nil))) .nil)) (.blt .len (.cons (.var 1) .nil))))) .nil)⟩
def n_law_pick : List Str := ["_law_box", "_law_things"]
def law_parents_b1 : Ss := (.cons (.ret (.tup .nil)) .nil)
def law_parents_b0 : Ss := (.cons (.asg [3] false (.call 8 (.cons (.var 0) (.cons (.bin .Sub (.blt .len (.cons (.var 2) .nil)) (.lit (.int 1))) .nil)))) (.cons (.ret (.blt .tuple (.cons (.slc (.var 2) (.some (.var 3)) (.some (.bin .Add (.var 3) (.lit (.int 2))))) .nil))) .nil))
def f_law_parents : FD := ⟨3, 6, false, (.cons (.ifs (.cmp .Gt (.blt .len (.cons (.var 2) .nil)) (.lit (.int 2))) law_parents_b0 .nil) (.cons (.ifs (.cmp .Eq (.call 8 (.cons (.var 0) (.cons (.lit (.int 6)) .nil))) (.lit (.int 0))) law_parents_b1 .nil) (.cons (.asg [4] false (.call 8 (.cons (.var 0) (.cons (.var 1) .nil)))) (.cons (.asg [5] false (.call 8 (.cons (.var 0) (.cons (.var 1) .nil)))) (.cons (.ret (.blt .tuple (.cons (.sset (.lst (.cons (.var 4) (.cons (.var 5) .nil)))) .nil))) .nil)))))⟩
def n_law_parents : List Str := ["_law_box", "_law_k", "_law_ends", "_law_at", "_law_one", "_law_other"]
def law_history_b3 : Ss := (.cons (.asg [6] false (.call 10 (.cons (.var 0) (.cons (.var 5) (.cons (.var 4) .nil))))) .nil)
def law_history_b2 : Ss := (.cons (.ifs (.cmp .Gt (.var 5) (.lit (.int 0))) law_history_b3 .nil) .nil)
def law_history_b1 : Ss := (.cons (.asg [6] false (.blt .tuple (.cons (.var 4) .nil))) .nil)
def law_history_b0 : Ss := (.cons (.asg [6] false (.tup .nil)) (.cons (.ifs (.cmp .Eq (.var 5) (.bin .Sub (.var 2) (.lit (.int 1)))) law_history_b1 law_history_b2) (.cons (.asg [4] false (.bin .Add (.lc 0 [7] false (.e (.var 4)) (.some (.cmp .NotIn (.var 7) (.var 6))) (.var 7)) (.lst (.cons (.var 5) .nil)))) (.cons (.app (.var 3) (.tup (.cons (.bin .Add (.lit (.str "v")) (.idx (.lit (.str "abcdefghijklmnopqrstuvwx")) (.var 5))) (.cons (.var 6) .nil)))) .nil))))
def f_law_history : FD := ⟨2, 8, true, (.cons (.asg [2] false (.bin .Add (.lit (.int 1)) (.call 8 (.cons (.var 0) (.cons (.var 1) .nil))))) (.cons (.asg [3] false (.lstM .nil)) (.cons (.asg [4] false (.lst .nil)) (.cons (.forS [5] false (.rg1 (.var 2)) law_history_b0) (.cons (.ret (.tup (.cons (.lit (.str "history")) (.cons (.blt .tuple (.cons (.var 3) .nil)) .nil)))) .nil)))))⟩
def n_law_history : List Str := ["_law_box", "_law_most", "_law_many", "_law_makes", "_law_ends", "_law_k", "_law_parents_here", "_law_end"]
def law_answers_b0 : Ss := (.cons (.app (.var 3) (.tup (.cons (.call 9 (.cons (.var 0) (.cons (.lst (.cons (.lit (.str "broken")) (.cons (.lit (.str "works")) .nil))) .nil))) (.cons (.call 8 (.cons (.var 0) (.cons (.blt .len (.cons (.idx (.var 1) (.lit (.int 1))) .nil)) .nil))) .nil)))) .nil)
def f_law_answers : FD := ⟨3, 5, true, (.cons (.asg [3] false (.lstM .nil)) (.cons (.forS [4] false (.rg1 (.call 8 (.cons (.var 0) (.cons (.bin .Add (.var 2) (.lit (.int 1))) .nil)))) law_answers_b0) (.cons (.ret (.blt .tuple (.cons (.var 3) .nil))) .nil)))⟩
def n_law_answers : List Str := ["_law_box", "_law_history_here", "_law_most", "_law_found", "_law_turn"]
def f_law_count : FD := ⟨3, 5, false, (.cons (.ret (.blt .len (.cons (.lc 0 [3, 4] true (.e (.var 0)) (.some (.and (.cmp .Eq (.var 3) (.var 1)) (.one (.cmp .Eq (.var 4) (.var 2))))) (.lit (.int 1))) .nil))) .nil)⟩
def n_law_count : List Str := ["_law_answers_here", "_law_kind", "_law_make", "_law_one", "_law_index"]
def f_law_settled : FD := ⟨4, 6, false, (.cons (.asg [4] false (.cmp .Gt (.call 13 (.cons (.var 0) (.cons (.lit (.str "works")) (.cons (.var 1) .nil)))) (.var 2))) (.cons (.asg [5] false (.cmp .Gt (.call 13 (.cons (.var 0) (.cons (.lit (.str "broken")) (.cons (.var 1) .nil)))) (.idx (.lst (.cons (.var 2) (.cons (.lit (.int 0)) .nil))) (.blt .int (.cons (.cmp .Eq (.var 3) (.lit (.str "one"))) .nil))))) (.cons (.ret (.idx (.lst (.cons (.lit (.str "")) (.cons (.lit (.str "works")) (.cons (.lit (.str "broken")) (.cons (.lit (.str "both")) .nil))))) (.bin .Add (.blt .int (.cons (.var 4) .nil)) (.bin .Mult (.lit (.int 2)) (.blt .int (.cons (.var 5) .nil)))))) .nil)))⟩
def n_law_settled : List Str := ["_law_answers_here", "_law_make", "_law_k", "_law_rule", "_law_works", "_law_broken"]
def f_law_times : FD := ⟨2, 2, false, (.cons (.ret (.idx (.lst (.cons (.bin .Add (.bin .Mult (.lit (.int 2)) (.var 0)) (.lit (.int 1))) (.cons (.bin .Add (.var 0) (.lit (.int 1))) .nil))) (.blt .int (.cons (.cmp .Eq (.var 1) (.lit (.str "one"))) .nil)))) .nil)⟩
def n_law_times : List Str := ["_law_k", "_law_rule"]
def law_place_b0 : Ss := (.cons (.asg [0] false (.idx (.var 0) (.bin .Add (.lit (.int 2)) (.blt .int (.cons (.cmp .Eq (.call 14 (.cons (.var 1) (.cons (.idx (.var 0) (.lit (.int 1))) (.cons (.var 2) (.cons (.var 3) .nil))))) (.lit (.str "works"))) .nil))))) .nil)
def f_law_place : FD := ⟨4, 4, false, (.cons (.whl 1000 (.and (.cmp .Eq (.idx (.var 0) (.lit (.int 0))) (.lit (.str "ask"))) (.one (.cmp .NotEq (.call 14 (.cons (.var 1) (.cons (.idx (.var 0) (.lit (.int 1))) (.cons (.var 2) (.cons (.var 3) .nil))))) (.lit (.str ""))))) law_place_b0) (.cons (.ret (.var 0)) .nil))⟩
def n_law_place : List Str := ["_law_tree_here", "_law_answers_here", "_law_k", "_law_rule"]
def law_needed_b1 : Ss := (.cons (.asg [4] false (.bin .Add (.var 4) (.call 13 (.cons (.var 1) (.cons (.lit (.str "broken")) (.cons (.idx (.var 0) (.lit (.int 1))) .nil)))))) .nil)
def law_needed_b0 : Ss := (.cons (.ret (.lit (.int 0))) .nil)
def f_law_needed : FD := ⟨4, 6, false, (.cons (.asg [0] false (.call 16 (.cons (.var 0) (.cons (.var 1) (.cons (.var 2) (.cons (.var 3) .nil)))))) (.cons (.ifs (.cmp .NotEq (.idx (.var 0) (.lit (.int 0))) (.lit (.str "ask"))) law_needed_b0 .nil) (.cons (.asg [4] false (.call 13 (.cons (.var 1) (.cons (.lit (.str "works")) (.cons (.idx (.var 0) (.lit (.int 1))) .nil))))) (.cons (.ifs (.cmp .Eq (.var 3) (.lit (.str "two"))) law_needed_b1 .nil) (.cons (.ret (.bin .Add (.bin .Sub (.call 15 (.cons (.var 2) (.cons (.var 3) .nil))) (.var 4)) (.blt .max (.cons (.lc 0 [5] false (.e (.slc (.var 0) (.some (.lit (.int 2))) .none)) .none (.call 17 (.cons (.var 5) (.cons (.var 1) (.cons (.var 2) (.cons (.var 3) .nil)))))) .nil)))) .nil)))))⟩
def n_law_needed : List Str := ["_law_tree_here", "_law_answers_here", "_law_k", "_law_rule", "_law_came", "_law_part"]
def law_tree_b0 : Ss := (.cons (.ret (.call 9 (.cons (.var 0) (.cons (.lst (.cons (.tup (.cons (.lit (.str "nobody")) .nil)) (.cons (.tup (.cons (.lit (.str "found")) (.cons (.call 8 (.cons (.var 0) (.cons (.lit (.int 5)) .nil))) .nil))) .nil))) .nil)))) .nil)
def f_law_tree : FD := ⟨3, 6, false, (.cons (.asg [3] false (.call 8 (.cons (.var 0) (.cons (.lit (.int 6)) .nil)))) (.cons (.ifs (.or (.cmp .Eq (.var 2) (.lit (.int 0))) (.one (.cmp .Eq (.var 3) (.lit (.int 0))))) law_tree_b0 .nil) (.cons (.asg [4] false (.call 8 (.cons (.var 0) (.cons (.blt .len (.cons (.idx (.var 1) (.lit (.int 1))) .nil)) .nil)))) (.cons (.asg [5] false (.call 18 (.cons (.var 0) (.cons (.var 1) (.cons (.bin .Sub (.var 2) (.lit (.int 1))) .nil))))) (.cons (.ret (.tup (.cons (.lit (.str "ask")) (.cons (.var 4) (.cons (.var 5) (.cons (.call 18 (.cons (.var 0) (.cons (.var 1) (.cons (.bin .Sub (.var 2) (.lit (.int 1))) .nil)))) .nil)))))) .nil)))))⟩
def n_law_tree : List Str := ["_law_box", "_law_history_here", "_law_deep", "_law_kind", "_law_make", "_law_broken"]
def law_b4 : Ss := (.cons (.ret (.lit (.bool false))) .nil)
def law_b3 : Ss := (.cons (.ret (.lit (.bool false))) .nil)
def law_b2 : Ss := (.cons (.asg [10] false (.lst (.cons (.idx (.var 9) (.lit (.int 1))) (.cons (.neg (.lit (.int 1))) .nil)))) .nil)
def law_b1 : Ss := (.cons (.asg [8] false (.slc (.var 5) .none (.some (.var 7)))) (.cons (.asg [9] false (.call 16 (.cons (.var 3) (.cons (.var 8) (.cons (.var 4) (.cons (.var 6) .nil)))))) (.cons (.asg [10] false (.lst (.cons (.neg (.lit (.int 1))) (.cons (.dlg [("ask", -1), ("nobody", -2)] (.idx (.var 9) (.lit (.int 0))) (.idx (.var 9) (.neg (.lit (.int 1))))) .nil)))) (.cons (.ifs (.cmp .Eq (.idx (.var 9) (.lit (.int 0))) (.lit (.str "ask"))) law_b2 .nil) (.cons (.ifs (.cmp .NotEq (.lst (.cons (.call 3 (.cons (.var 3) (.cons (.var 8) (.cons (.var 4) (.cons (.var 6) .nil))))) (.cons (.call 4 (.cons (.var 3) (.cons (.var 8) (.cons (.var 4) (.cons (.var 6) .nil))))) .nil))) (.var 10)) law_b3 .nil) (.cons (.ifs (.cmp .NotEq (.call 5 (.cons (.var 3) (.cons (.var 8) (.cons (.var 4) (.cons (.var 6) .nil))))) (.call 17 (.cons (.var 3) (.cons (.var 8) (.cons (.var 4) (.cons (.var 6) .nil)))))) law_b4 .nil) .nil))))))
def law_b0 : Ss := (.cons (.forS [7] false (.rg1 (.bin .Add (.blt .len (.cons (.var 5) .nil)) (.lit (.int 1)))) law_b1) .nil)
def f_law : FD := ⟨1, 11, true, (.cons (.asg [1] false (.lstM (.cons (.call 7 (.cons (.var 0) (.cons (.lit (.int 0)) (.cons (.lit (.int 63)) .nil)))) (.cons (.lit (.int 0)) .nil)))) (.cons (.asg [2] false (.call 11 (.cons (.var 1) (.cons (.lit (.int 7)) .nil)))) (.cons (.asg [3] false (.call 18 (.cons (.var 1) (.cons (.var 2) (.cons (.lit (.int 4)) .nil))))) (.cons (.asg [4] false (.call 8 (.cons (.var 1) (.cons (.lit (.int 4)) .nil)))) (.cons (.asg [5] false (.call 12 (.cons (.var 1) (.cons (.var 2) (.cons (.lit (.int 30)) .nil))))) (.cons (.forS [6] false (.e (.lst (.cons (.lit (.str "two")) (.cons (.lit (.str "one")) .nil)))) law_b0) (.cons (.ret (.lit (.bool true))) .nil)))))))⟩
def n_law : List Str := ["_law_script", "_law_box", "_law_history_here", "_law_tree_here", "_law_k", "_law_answers_here", "_law_rule", "_law_many", "_law_came", "_law_part", "_law_due"]
def tab : List FD := [f_counts_of, f_settled, f_place_in, f_next_make, f_told_class, f_still_needed, f_law_cell, f_law_digits, f_law_draw, f_law_pick, f_law_parents, f_law_history, f_law_answers, f_law_count, f_law_settled, f_law_times, f_law_place, f_law_needed, f_law_tree, f_law]
end Ev

namespace Ev
open PySem
/-- a box of digits -/
def IsBox (o : Ob) : Prop := ∃ (ds : List Int) (k : Nat), o = .lst [.list (ds.map .int), .int k]

theorem cell_ok (n b : Nat) (h : Hq) (ns : List Int) (k : Nat) : ∃ v : Int, callN tab (n + 1) b 6 [.d (.list (ns.map .int)), .d (.int k)] h = .ok (.d (.int v)) h := by
  rw [call_of (fd := f_law_cell) _ _ rfl rfl]
  by_cases hk : k < ns.length
  · exact ⟨ns[k], by simp [f_law_cell, law_cell_b0, hk, atZ_nat]⟩
  · exact ⟨0, by simp [f_law_cell, law_cell_b0, hk, atZ_nat]⟩

theorem draw_ok (n b : Nat) {bx : Ob} (t : Hq) {m : Int} (hb : IsBox bx) (hm : 0 < m) : ∃ (v : Int) (bx' : Ob), 0 ≤ v ∧ v < m ∧ IsBox bx' ∧ callN tab (n + 1) b 8 [.l 0, .d (.int m)] (bx :: t) = .ok (.d (.int v)) (bx' :: t) := by
  obtain ⟨ds, k, rfl⟩ := hb
  rw [call_of (fd := f_law_draw) _ _ rfl rfl]
  by_cases hk : k < ds.length
  · refine ⟨ds[k].fmod m, .lst [.list (ds.map .int), .int ((k + 1 : Nat) : Int)], Int.fmod_nonneg_of_pos _ hm, Int.fmod_lt_of_pos _ hm, ⟨ds, k + 1, rfl⟩, ?_⟩
    simp [f_law_draw, law_draw_b0, hk, mod_i (Int.ne_of_gt hm), atZ_nat]
  · refine ⟨0, .lst [.list (ds.map .int), .int ((k + 1 : Nat) : Int)], Int.le_refl _, hm, ⟨ds, k + 1, rfl⟩, ?_⟩
    simp [f_law_draw, law_draw_b0, hk, mod_i (Int.ne_of_gt hm), atZ_nat]

def DgE (s : W) (h0 : Hq) (m : Nat) (env : Vars) (h : Hq) (c : Option W → Prop) (sd : Option W → Prop) : Prop :=
  ∃ x1 x2 x3 x4 ds, env = [some s, some (.d (.int 0)), some (.d (.int 63)), some (.l h0.length), x1, x2, x3, x4] ∧ c x2 ∧ sd x4 ∧ h = h0 ++ [.lst (List.map PyData.int ds)] ∧ ds.length ≤ m ∧ ∃ k : Int, x1 = some (.d (.int k))
def isI (o : Option W) : Prop := ∃ i : Int, o = some (.d (.int i))

theorem digits_turnA (b : Nat) (C : CallF) (s : W) (h0 : Hq) (m : Nat) (hm : m < 900000) (env : Vars) (h : Hq) (i : DgE s h0 m env h isI fun _ => True) (j : Int) : ∃ env' h', evSs b C law_digits_b3 (env.set 6 (some (.d (.int j)))) h = .ok (.nx env') h' ∧ DgE s h0 (m + 1) env' h' isI fun _ => True := by
  obtain ⟨x1, x2, x3, x4, ds, rfl, ⟨c, rfl⟩, -, rfl, hl, k, rfl⟩ := i
  by_cases hc : 0 < c
  · refine ⟨[some s, some (.d (.int 0)), some (.d (.int 63)), some (.l h0.length), some (.d (.int k)), some (.d (.int (c.fdiv 1000))), some (.d (.int j)), x4], h0 ++ [.lst (List.map PyData.int (ds ++ [c.fmod 1000]))], ?_, _, _, _, _, _, rfl, ⟨_, rfl⟩, trivial, rfl, by simp; omega, _, rfl⟩
    simp [law_digits_b3, law_digits_b4, hc, recvL_o last_at, app_o last_at (show (List.map PyData.int ds).length < 1000000 by simp; omega)]
  · refine ⟨[some s, some (.d (.int 0)), some (.d (.int 63)), some (.l h0.length), some (.d (.int k)), some (.d (.int c)), some (.d (.int j)), x4], h0 ++ [.lst (List.map PyData.int ds)], ?_, _, _, _, _, _, rfl, ⟨_, rfl⟩, trivial, rfl, by omega, _, rfl⟩
    simp [law_digits_b3, law_digits_b4, hc]

theorem digits_turnB (b : Nat) (C : CallF) (s : W) (h0 : Hq) (m : Nat) (hm : m < 900000) (env : Vars) (h : Hq) (i : DgE s h0 m env h isI isI) (j : Int) : ∃ env' h', evSs b C law_digits_b6 (env.set 6 (some (.d (.int j)))) h = .ok (.nx env') h' ∧ DgE s h0 (m + 1) env' h' isI isI := by
  obtain ⟨x1, x2, x3, x4, ds, rfl, ⟨c, rfl⟩, ⟨e, rfl⟩, rfl, hl, k, rfl⟩ := i
  refine ⟨[some s, some (.d (.int 0)), some (.d (.int 63)), some (.l h0.length), some (.d (.int k)), some (.d (.int c)), some (.d (.int j)), some (.d (.int ((e * 16807 + 7 * j + 1).fmod 2147483647)))], h0 ++ [.lst (List.map PyData.int (ds ++ [(((e * 16807 + 7 * j + 1).fmod 2147483647).fdiv 997).fmod 1000]))], ?_, _, _, _, _, _, rfl, ⟨_, rfl⟩, ⟨_, rfl⟩, rfl, by simp; omega, _, rfl⟩
  simp [law_digits_b6, recvL_o last_at, app_o last_at (show (List.map PyData.int ds).length < 1000000 by simp; omega)]

theorem digits_turn (b n : Nat) (ns : List Int) (h0 : Hq) (m : Nat) (hm : m < 800000) (env : Vars) (h : Hq) (i : ∃ x1 x2 x3 x4 ds, env = [some (.d (.list (ns.map .int))), some (.d (.int 0)), some (.d (.int 63)), some (.l h0.length), x1, x2, x3, x4] ∧ h = h0 ++ [.lst (List.map PyData.int ds)] ∧ ds.length ≤ m) (k : Nat) :
    ∃ env' h', evSs b (callN tab (n + 1)) law_digits_b0 (env.set 4 (some (.d (.int k)))) h = .ok (.nx env') h' ∧ ∃ x1 x2 x3 x4 ds, env' = [some (.d (.list (ns.map .int))), some (.d (.int 0)), some (.d (.int 63)), some (.l h0.length), x1, x2, x3, x4] ∧ h' = h0 ++ [.lst (List.map PyData.int ds)] ∧ ds.length ≤ m + 60 := by
  obtain ⟨x1, x2, x3, x4, ds, rfl, rfl, hl⟩ := i
  obtain ⟨v, hv⟩ := cell_ok n b (h0 ++ [.lst (List.map PyData.int ds)]) ns k
  -- the rest, by the cell's value made positive
  have rest : ∀ c : Int, ∃ env' h', evSs b (callN tab (n + 1)) (.cons (.ifs (.cmp .GtE (.var 5) (.bin .Pow (.lit (.int 10)) (.lit (.int 18)))) law_digits_b2 law_digits_b5) .nil) [some (.d (.list (ns.map .int))), some (.d (.int 0)), some (.d (.int 63)), some (.l h0.length), some (.d (.int k)), some (.d (.int c)), x3, x4] (h0 ++ [.lst (List.map PyData.int ds)]) = .ok (.nx env') h' ∧
      ∃ x1 x2 x3 x4 ds, env' = [some (.d (.list (ns.map .int))), some (.d (.int 0)), some (.d (.int 63)), some (.l h0.length), x1, x2, x3, x4] ∧ h' = h0 ++ [.lst (List.map PyData.int ds)] ∧ ds.length ≤ m + 60 := by
    intro c
    by_cases hc : (1000000000000000000 : Int) ≤ c
    · obtain ⟨env', h', e1, y1, y2, y3, y4, ds', rfl, -, -, rfl, hl', k', rfl⟩ := forGo_ok (f := fun w env h => match bindT [6] false w env with
        | some env => evSs b (callN tab (n + 1)) law_digits_b3 env h
        | none => .bad) (fun j env h => DgE (.d (.list (ns.map .int))) h0 (m + j) env h isI fun _ => True) (rangeUp 0 60) 0 [some (.d (.list (ns.map .int))), some (.d (.int 0)), some (.d (.int 63)), some (.l h0.length), some (.d (.int k)), some (.d (.int c)), x3, x4] (h0 ++ [.lst (List.map PyData.int ds)])
        ⟨_, _, _, _, ds, rfl, ⟨_, rfl⟩, trivial, rfl, by omega, _, rfl⟩ fun j w env h e i => by
          obtain ⟨rfl, hj⟩ := rangeUp_at e
          have := digits_turnA b (callN tab (n + 1)) _ h0 (m + (0 + j)) (by omega) env h i (0 + j)
          simpa [Nat.add_assoc] using this
      refine ⟨_, _, ?_, some (.d (.int k')), y2, y3, y4, ds', rfl, rfl, by simpa using hl'⟩
      simp [law_digits_b2, hc, s_for, rg_of]
      simp only [bind_1] at e1
      simp [e1]
    · obtain ⟨env', h', e1, y1, y2, y3, y4, ds', rfl, -, -, rfl, hl', k', rfl⟩ := forGo_ok (f := fun w env h => match bindT [6] false w env with
        | some env => evSs b (callN tab (n + 1)) law_digits_b6 env h
        | none => .bad) (fun j env h => DgE (.d (.list (ns.map .int))) h0 (m + j) env h isI isI) (rangeUp 0 12) 0 [some (.d (.list (ns.map .int))), some (.d (.int 0)), some (.d (.int 63)), some (.l h0.length), some (.d (.int k)), some (.d (.int c)), x3, some (.d (.int ((c * 48271 + k * 69621 + 11).fmod 2147483647)))] (h0 ++ [.lst (List.map PyData.int ds)])
        ⟨_, _, _, _, ds, rfl, ⟨_, rfl⟩, ⟨_, rfl⟩, rfl, by omega, _, rfl⟩ fun j w env h e i => by
          obtain ⟨rfl, hj⟩ := rangeUp_at e
          have := digits_turnB b (callN tab (n + 1)) _ h0 (m + (0 + j)) (by omega) env h i (0 + j)
          simpa [Nat.add_assoc] using this
      have hl2 : ds'.length ≤ m + 12 := by simpa using hl'
      refine ⟨_, _, ?_, some (.d (.int k')), y2, y3, y4, ds', rfl, rfl, by omega⟩
      have hd : decide ((1000000000000000000 : Int) ≤ c) = false := decide_eq_false hc
      simp only [s_cons, s_ifs, x_cmp, x_var, x_bin, x_lit, List.getElem?_cons_succ, List.getElem?_cons_zero, b_ok, op2_d, pow_18, liftO_s, ge_i, hd]
      clear hd hc
      simp [law_digits_b5, s_for, rg_of]
      simp only [bind_1] at e1
      simp [e1]
  by_cases hv0 : v < 0
  · obtain ⟨env', h', e1, e2⟩ := rest (1 - 2 * v)
    refine ⟨env', h', ?_, e2⟩
    rw [← e1]
    simp only [law_digits_b0, law_digits_b1]
    simp [hv, hv0]
  · obtain ⟨env', h', e1, e2⟩ := rest v
    refine ⟨env', h', ?_, e2⟩
    rw [← e1]
    simp only [law_digits_b0, law_digits_b1]
    simp [hv, hv0]

theorem digits_ok (n b : Nat) (h0 : Hq) (ns : List Int) : ∃ ds : List Int, callN tab (n + 2) b 7 [.d (.list (ns.map .int)), .d (.int 0), .d (.int 63)] h0 = .ok (.d (.list (ds.map .int))) h0 := by
  rw [call_of (fd := f_law_digits) _ _ rfl rfl]
  obtain ⟨env', h', e1, y1, y2, y3, y4, ds', rfl, rfl, -⟩ := forGo_ok (f := fun w env h => match bindT [4] false w env with
        | some env => evSs h0.length (callN tab (n + 1)) law_digits_b0 env h
        | none => .bad) (fun j env h => ∃ x1 x2 x3 x4 ds, env = [some (.d (.list (ns.map .int))), some (.d (.int 0)), some (.d (.int 63)), some (.l h0.length), x1, x2, x3, x4] ∧ h = h0 ++ [.lst (List.map PyData.int ds)] ∧ ds.length ≤ j * 60) (rangeUp 0 63) 0 
        [some (.d (.list (ns.map .int))), some (.d (.int 0)), some (.d (.int 63)), some (.l h0.length), none, none, none, none] (h0 ++ [.lst []])
        ⟨_, _, _, _, [], rfl, rfl, by simp⟩ fun j w env h e i => by
          obtain ⟨rfl, hj⟩ := rangeUp_at e
          have := digits_turn h0.length n ns h0 ((0 + j) * 60) (by omega) env h i j
          simpa [Nat.add_mul] using this
  refine ⟨ds', ?_⟩
  simp [f_law_digits, s_for, rg_of]
  simp only [bind_1] at e1
  simp [e1, evFrz]

end Ev

namespace Ev
open PySem
theorem pick_ok (n b : Nat) {bx : Ob} (t : Hq) (xs : List PyData) (hb : IsBox bx) (hx : xs ≠ []) : ∃ x ∈ xs, ∃ bx', IsBox bx' ∧ callN tab (n + 2) b 9 [.l 0, .d (.list xs)] (bx :: t) = .ok (.d x) (bx' :: t) := by
  obtain ⟨v, bx', v0, v1, hb', e⟩ := draw_ok n b t hb (m := 900) (by decide)
  have hl : (0 : Int) < xs.length := by
    have := List.length_pos_iff.mpr hx
    omega
  have q0 := Int.fmod_nonneg_of_pos v hl
  have q1 := Int.fmod_lt_of_pos v hl
  have q2 : (v.fmod xs.length).toNat < xs.length := by omega
  refine ⟨xs[(v.fmod xs.length).toNat], List.getElem_mem _, bx', hb', ?_⟩
  rw [call_of (fd := f_law_pick) _ _ rfl rfl]
  simp [f_law_pick, e, mod_i (Int.ne_of_gt hl), atZ_int q0, q2]

end Ev

namespace Ev
open PySem
structure Par (k : Int) (l : List Int) : Prop where
  rg : ∀ x ∈ l, 0 ≤ x ∧ x < k
  pw : l.Pairwise (· < ·)
theorem Par.sub {k : Int} {l l' : List Int} (p : Par k l) (s : l'.Sublist l) : Par k l' := ⟨fun x hx => p.rg x (s.subset hx), p.pw.sublist s⟩

theorem parents_ok (n b : Nat) {bx : Ob} (t : Hq) {k : Int} {ends : List Int} (hb : IsBox bx) (hk : 0 < k) (he : Par k ends) : ∃ ps bx', Par k ps ∧ IsBox bx' ∧ callN tab (n + 2) b 10 [.l 0, .d (.int k), .d (.list (ends.map .int))] (bx :: t) = .ok (.d (.tuple (ps.map .int))) (bx' :: t) := by
  rw [call_of (fd := f_law_parents) _ _ rfl rfl]
  by_cases hl : 2 < ends.length
  · have hl' : (2 : Int) < ends.length := by omega
    obtain ⟨v, bx', v0, v1, hb', e⟩ := draw_ok n b t hb (m := (ends.length : Int) - 1) (by omega)
    refine ⟨cutL ends (some v) (some (v + 2)), bx', he.sub cutL_sub, hb', ?_⟩
    simp [f_law_parents, law_parents_b0, hl', e, cutL_map]
  · have hl' : ¬ (2 : Int) < ends.length := by omega
    obtain ⟨v, bx1, v0, v1, hb1, e⟩ := draw_ok n b t hb (m := 6) (by decide)
    by_cases hv : v = 0
    · refine ⟨[], bx1, ⟨by simp, .nil⟩, hb1, ?_⟩
      simp [f_law_parents, law_parents_b1, hl', e, hv]
    · obtain ⟨v1, bx2, v10, v11, hb2, e1⟩ := draw_ok n b t hb1 hk
      obtain ⟨v2, bx3, v20, v21, hb3, e2⟩ := draw_ok n b t hb2 hk
      refine ⟨sortU [v1, v2], bx3, ?_, hb3, ?_⟩
      · simp only [sortU, List.foldr, insU]
        split
        · exact ⟨by simp; omega, by simpa using by assumption⟩
        · split
          · exact ⟨by simp; omega, by simp⟩
          · exact ⟨by simp; omega, by simp; omega⟩
      · simp [f_law_parents, hl', e, hv, e1, e2, listInts, intsOf]

def rowD (r : Str × List Int) : PyData := .tuple [.str r.1, .tuple (r.2.map .int)]
def histD (rows : List (Str × List Int)) : PyData := .tuple [.str "history", .tuple (rows.map rowD)]
structure Rows (rows : List (Str × List Int)) : Prop where
  par : ∀ (k : Nat) r, rows[k]? = some r → Par k r.2
theorem Rows.snoc {rows : List (Str × List Int)} {r : Str × List Int} (h : Rows rows) (p : Par rows.length r.2) : Rows (rows ++ [r]) := ⟨fun k q e => by
  by_cases hk : k < rows.length
  · rw [List.getElem?_append_left hk] at e; exact h.par k q e
  · rw [List.getElem?_append_right (by omega)] at e
    by_cases hk2 : k - rows.length = 0
    · rw [hk2] at e; cases e
      have : k = rows.length := by omega
      subst this; exact p
    · rw [List.getElem?_eq_none (by simp; omega)] at e; cases e⟩

theorem letter_ok (h : Hq) {k : Int} (h0 : 0 ≤ k) (h1 : k < 24) : ∃ s : Str, s.length = 1 ∧ evIdx h (.d (.str "abcdefghijklmnopqrstuvwx")) (.d (.int k)) = .ok (.d (.str s)) h := by
  have hl : ("abcdefghijklmnopqrstuvwx" : Str).length ≤ SZ := by decide +kernel
  have hl2 : ("abcdefghijklmnopqrstuvwx" : Str).cps.toList.length = 24 := by decide +kernel
  have hk : k.toNat < ("abcdefghijklmnopqrstuvwx" : Str).cps.toList.length := by omega
  refine ⟨⟨#[("abcdefghijklmnopqrstuvwx" : Str).cps.toList[k.toNat]]⟩, rfl, ?_⟩
  simp only [evIdx, if_pos hl, atZ_int h0, List.getElem?_eq_getElem hk]
end Ev
namespace Ev
open PySem
def HiE (most many : Int) (t : Hq) (m : Nat) (env : Vars) (h : Hq) : Prop :=
  ∃ bx ends rows x1 x2 x3, IsBox bx ∧ env = [some (.l 0), some (.d (.int most)), some (.d (.int many)), some (.l (t.length + 1)), some (.d (.list (List.map PyData.int ends))), x1, x2, x3] ∧ h = bx :: (t ++ [.lst (List.map rowD rows)]) ∧ rows.length = m ∧ Rows rows ∧ Par m ends

theorem par_step {m : Nat} {ends ps : List Int} (h : Par m ends) : Par (m + 1 : Nat) ((ends.filter fun x => !decide (x ∈ ps)) ++ [(m : Int)]) := by
  refine ⟨fun x hx => ?_, ?_⟩
  · rcases List.mem_append.mp hx with hx | hx
    · have := h.rg x (List.mem_filter.mp hx).1
      omega
    · simp only [List.mem_singleton] at hx
      omega
  · rw [List.pairwise_append]
    refine ⟨h.pw.sublist List.filter_sublist, by simp, fun x hx y hy => ?_⟩
    have := h.rg x (List.mem_filter.mp hx).1
    simp only [List.mem_singleton] at hy
    omega

theorem par_len : ∀ {k : Nat} {l : List Int}, Par k l → l.length ≤ k := by
  intro k
  induction k with
  | zero =>
    intro l p
    cases l with
    | nil => simp
    | cons x l => have := p.rg x List.mem_cons_self; omega
  | succ k ih =>
    intro l p
    have q : Par k (l.filter fun x : Int => decide (x < (k : Int))) := ⟨fun x hx => by
      have h1 := p.rg x (List.mem_filter.mp hx).1
      have h2 := (List.mem_filter.mp hx).2
      simp only [decide_eq_true_eq] at h2
      exact ⟨h1.1, h2⟩, p.pw.sublist List.filter_sublist⟩
    have r := ih q
    have w : ∀ {l : List Int}, l.Pairwise (· < ·) → (∀ x ∈ l, x ≤ (k : Int)) → l.length ≤ (l.filter fun x : Int => decide (x < (k : Int))).length + 1 := by
      intro l
      induction l with
      | nil => intro _ _; simp
      | cons x l ih =>
        intro pw hx
        rw [List.pairwise_cons] at pw
        by_cases hk : x < k
        · have hf : List.filter (fun x : Int => decide (x < (k : Int))) (x :: l) = x :: List.filter (fun x : Int => decide (x < (k : Int))) l := by simp [List.filter_cons, hk]
          rw [hf]
          have := ih pw.2 fun y hy => hx y (List.mem_cons_of_mem _ hy)
          simp only [List.length_cons]
          omega
        · have e : x = k := by have := hx x List.mem_cons_self; omega
          have nl : l = [] := by
            cases l with
            | nil => rfl
            | cons y l =>
              have h1 := pw.1 y List.mem_cons_self
              have h2 := hx y (by simp)
              omega
          subst nl
          simp
    have := w p.pw fun x hx => by have := p.rg x hx; omega
    omega

theorem history_tail (n b : Nat) {most many : Int} {t : Hq} {m : Nat} (hm : m < 24) {bx : Ob} {ends ps : List Int} {rows : List (Str × List Int)} {x3 : Option W} (hb : IsBox bx) (hr : rows.length = m) (hR : Rows rows) (hP : Par m ends) (hp : Par m ps) (hl : ends.length ≤ 100) (hpl : ps.length ≤ 100) :
    ∃ env' h', evSs b (callN tab (n + 2)) (.cons (.asg [4] false (.bin .Add (.lc 0 [7] false (.e (.var 4)) (.some (.cmp .NotIn (.var 7) (.var 6))) (.var 7)) (.lst (.cons (.var 5) .nil)))) (.cons (.app (.var 3) (.tup (.cons (.bin .Add (.lit (.str "v")) (.idx (.lit (.str "abcdefghijklmnopqrstuvwx")) (.var 5))) (.cons (.var 6) .nil)))) .nil))
      [some (.l 0), some (.d (.int most)), some (.d (.int many)), some (.l (t.length + 1)), some (.d (.list (List.map PyData.int ends))), some (.d (.int m)), some (.d (.tuple (List.map PyData.int ps))), x3] (bx :: (t ++ [.lst (List.map rowD rows)])) = .ok (.nx env') h' ∧ HiE most many t (m + 1) env' h' := by
  obtain ⟨s, hs, es⟩ := letter_ok (bx :: (t ++ [.lst (List.map rowD rows)])) (k := m) (by omega) (by omega)
  refine ⟨_, _, ?_, bx, (ends.filter fun x => !decide (x ∈ ps)) ++ [(m : Int)], rows ++ [("v" ++ s, ps)], some (.d (.int m)), some (.d (.tuple (List.map PyData.int ps))), x3, hb, rfl, rfl, by simp [hr], hR.snoc (by rw [hr]; exact hp), par_step hP⟩
  have h1 : ("v" : Str).length + s.length ≤ 1000000 := by rw [hs]; decide +kernel
  have h2 : (List.map rowD rows).length < 1000000 := by simp; omega
  have h3 : ((ends.filter fun x => !decide (x ∈ ps)).map PyData.int).length + [PyData.int m].length ≤ 1000000 := by
    have := List.length_filter_le (fun x => !decide (x ∈ ps)) ends
    simp only [List.length_map, List.length_cons, List.length_nil]
    omega
  simp
  rw [lc_filter (p := fun x => !decide (x ∈ ps)) (g := fun x => W.d (.int x)) ends]
  · have h3' : ((ends.filter fun x => !decide (x ∈ ps)).map PyData.int).length + 1 ≤ 1000000 := h3
    simp [es, recvL_o c_at, app_o c_at h2, add_l h3, add_s h1, rowD]
  · intro x hx
    by_cases hx : x ∈ ps <;> simp [hx]

theorem history_turn (n b : Nat) {most many : Int} {t : Hq} {m : Nat} (hm : m < 24) (hmany : (m : Int) < many) {env : Vars} {h : Hq} (i : HiE most many t m env h) : ∃ env' h', evSs b (callN tab (n + 2)) law_history_b0 (env.set 5 (some (.d (.int m)))) h = .ok (.nx env') h' ∧ HiE most many t (m + 1) env' h' := by
  obtain ⟨bx, ends, rows, x1, x2, x3, hb, rfl, rfl, hr, hR, hP⟩ := i
  have hl : ends.length ≤ 100 := by
    have := par_len hP
    omega
  unfold law_history_b0
  by_cases h1 : (m : Int) = many - 1
  · obtain ⟨env', h', e1, e2⟩ := history_tail n b (most := most) (many := many) (x3 := x3) hm hb hr hR hP hP hl hl
    refine ⟨env', h', ?_, e2⟩
    rw [← e1]
    simp [law_history_b1, h1]
  · by_cases h2 : (0 : Int) < m
    · obtain ⟨ps, bx', hp, hb', e⟩ := parents_ok n b (t ++ [.lst (List.map rowD rows)]) hb h2 hP
      have hpl := par_len hp
      obtain ⟨env', h', e1, e2⟩ := history_tail n b (most := most) (many := many) (x3 := x3) hm hb' hr hR hP hp hl (by omega)
      refine ⟨env', h', ?_, e2⟩
      rw [← e1]
      have h2' : 0 < m := by omega
      simp [law_history_b2, law_history_b3, h1, h2, h2', e]
    · obtain ⟨env', h', e1, e2⟩ := history_tail n b (ps := []) (most := most) (many := many) (x3 := x3) hm hb hr hR hP ⟨by simp, .nil⟩ hl (by simp)
      refine ⟨env', h', ?_, e2⟩
      rw [← e1]
      have h2' : m = 0 := by omega
      subst h2'
      have h1' : ¬ (0 : Int) = many - 1 := h1
      simp [law_history_b2, law_history_b3, h1']

theorem history_ok (n b : Nat) {bx : Ob} (t : Hq) {most : Int} (hb : IsBox bx) (h0 : 0 < most) (h1 : most < 24) : ∃ rows bx', rows ≠ [] ∧ (rows.length : Int) ≤ most ∧ Rows rows ∧ IsBox bx' ∧ callN tab (n + 3) b 11 [.l 0, .d (.int most)] (bx :: t) = .ok (.d (histD rows)) (bx' :: t) := by
  rw [call_of (fd := f_law_history) _ _ rfl rfl]
  obtain ⟨v, bx1, v0, v1, hb1, e⟩ := draw_ok (n + 1) (t.length + 1) t hb h0
  obtain ⟨env', h', e1, bx', ends, rows, x1, x2, x3, hb', rfl, rfl, hr, hR, hP⟩ := forGo_ok (f := fun w env h => match bindT [5] false w env with
        | some env => evSs (t.length + 1) (callN tab (n + 2)) law_history_b0 env h
        | none => .bad) (HiE most (1 + v) t) (rangeUp 0 (1 + v)) 0 [some (.l 0), some (.d (.int most)), some (.d (.int (1 + v))), some (.l (t.length + 1)), some (.d (.list [])), none, none, none] (bx1 :: (t ++ [.lst []]))
        ⟨bx1, [], [], _, _, _, hb1, rfl, rfl, rfl, ⟨fun k r e => by simp at e⟩, ⟨by simp, .nil⟩⟩ fun j w env h e i => by
          obtain ⟨rfl, hj⟩ := rangeUp_at e
          have := history_turn n (t.length + 1) (m := 0 + j) (by omega) (by omega) i
          simpa using this
  have hr' : rows.length = (1 + v).toNat := by simpa using hr
  refine ⟨rows, bx', ?_, by omega, hR, hb', ?_⟩
  · intro z
    rw [z] at hr'
    simp at hr'
    omega
  · have rg : rgOk 0 (1 + v) = true := rg_of (by omega) (by omega) (by omega) (by omega)
    simp [f_law_history, s_for, e, rg]
    simp only [bind_1] at e1
    simp [e1, tup_o c_at, histD]
end Ev

namespace Ev
open PySem
def ansR (a : Str × Int) : PyData := .tuple [.str a.1, .int a.2]
def ansD (as : List (Str × Int)) : PyData := .tuple (as.map ansR)
structure Ans (m : Int) (as : List (Str × Int)) : Prop where
  rg : ∀ a ∈ as, (a.1 = "broken" ∨ a.1 = "works") ∧ 0 ≤ a.2 ∧ a.2 < m

theorem answers_ok (n b : Nat) {bx : Ob} (t : Hq) {most : Int} {rows : List (Str × List Int)} (hb : IsBox bx) (h0 : 0 ≤ most) (h1 : most < 1000) (hr : rows ≠ []) : ∃ as bx', (as.length : Int) ≤ most ∧ Ans rows.length as ∧ IsBox bx' ∧ callN tab (n + 3) b 12 [.l 0, .d (histD rows), .d (.int most)] (bx :: t) = .ok (.d (ansD as)) (bx' :: t) := by
  rw [call_of (fd := f_law_answers) _ _ rfl rfl]
  obtain ⟨v, bx1, v0, v1, hb1, e⟩ := draw_ok (n + 1) (t.length + 1) (t ++ [.lst []]) hb (m := most + 1) (by omega)
  have hl : (0 : Int) < rows.length := by
    have := List.length_pos_iff.mpr hr
    omega
  obtain ⟨env', h', e1, bx', as, x1, hb', rfl, rfl, hr', hA⟩ := forGo_ok (f := fun w env h => match bindT [4] false w env with
        | some env => evSs (t.length + 1) (callN tab (n + 2)) law_answers_b0 env h
        | none => .bad) (fun j env h => ∃ bx as x1, IsBox bx ∧ env = [some (.l 0), some (.d (histD rows)), some (.d (.int most)), some (.l (t.length + 1)), x1] ∧ h = bx :: (t ++ [.lst (List.map ansR as)]) ∧ as.length = j ∧ Ans rows.length as) (rangeUp 0 v) 0 [some (.l 0), some (.d (histD rows)), some (.d (.int most)), some (.l (t.length + 1)), none] (bx1 :: (t ++ [.lst []]))
        ⟨bx1, [], _, hb1, rfl, rfl, rfl, ⟨by simp⟩⟩ fun j w env h e i => by
          obtain ⟨rfl, hj⟩ := rangeUp_at e
          obtain ⟨bx, as, x1, hb, rfl, rfl, hl2, hA⟩ := i
          obtain ⟨x, hx, bx2, hb2, e2⟩ := pick_ok n (t.length + 1) (t ++ [.lst (List.map ansR as)]) [.str "broken", .str "works"] hb (by simp)
          obtain ⟨u, bx3, u0, u1, hb3, e3⟩ := draw_ok (n + 1) (t.length + 1) (t ++ [.lst (List.map ansR as)]) hb2 hl
          obtain ⟨s, rfl, hs⟩ : ∃ s : Str, x = .str s ∧ (s = "broken" ∨ s = "works") := by
            simp only [List.mem_cons, List.not_mem_nil, or_false] at hx
            rcases hx with rfl | rfl
            · exact ⟨_, rfl, .inl rfl⟩
            · exact ⟨_, rfl, .inr rfl⟩
          refine ⟨_, _, ?_, bx3, as ++ [(s, u)], some (.d (.int (0 + j))), hb3, rfl, rfl, by simp; omega, ⟨fun a ha => ?_⟩⟩
          · have h2 : (List.map ansR as).length < 1000000 := by simp; omega
            have hh : evIdx (bx2 :: (t ++ [.lst (List.map ansR as)])) (.d (histD rows)) (.d (.int 1)) = .ok (.d (.tuple (rows.map rowD))) (bx2 :: (t ++ [.lst (List.map ansR as)])) := by simp [histD]
            simp [law_answers_b0, recvL_o c_at, e2, hh, e3, app_o c_at h2, ansR]
          · rcases List.mem_append.mp ha with ha | ha
            · exact hA.rg a ha
            · simp only [List.mem_singleton] at ha
              subst ha
              exact ⟨hs, u0, u1⟩
  have hr2 : as.length = v.toNat := by simpa using hr'
  refine ⟨as, bx', by omega, hA, hb', ?_⟩
  have rg : rgOk 0 v = true := rg_of (by omega) (by omega) (by omega) (by omega)
  simp [f_law_answers, s_for, e, rg]
  simp only [bind_1] at e1
  simp [e1, tup_o c_at, ansD]

def cnt (as : List (Str × Int)) (s : Str) (m : Int) : Nat := (as.filter fun a => decide (a.1 = s) && decide (a.2 = m)).length
end Ev

namespace Ev
open PySem
theorem count_ok (n b : Nat) (h : Hq) (as : List (Str × Int)) (s : Str) (m : Int) : callN tab (n + 1) b 13 [.d (ansD as), .d (.str s), .d (.int m)] h = .ok (.d (.int (cnt as s m))) h := by
  rw [call_of (fd := f_law_count) _ _ rfl rfl]
  simp [f_law_count, ansD]
  rw [lc_filter (p := fun a => decide (a.1 = s) && decide (a.2 = m)) (g := fun _ => W.d (.int 1)) as]
  · simp [cnt, lcEnd_m (g := fun _ => PyData.int 1)]
  · intro a ha
    by_cases h1 : a.1 = s <;> by_cases h2 : a.2 = m <;> simp [ansR, bindT, setAll, h1, h2]

end Ev

namespace Ev
open PySem
theorem counts_ok (n b : Nat) (h : Hq) (as : List (Str × Int)) (m : Int) : callN tab (n + 1) b 0 [.d (ansD as), .d (.int m)] h = .ok (.d (.tuple [.int (cnt as "works" m), .int (cnt as "broken" m)])) h := by
  rw [call_of (fd := f_counts_of) _ _ rfl rfl]
  have ce : ∀ s : Str, List.countP (fun y => PyData.eqv y (.str s)) ((as.filter fun a => decide (a.2 = m)).map fun a => PyData.str a.1) = cnt as s m := fun s => by
    rw [List.countP_map, List.countP_filter, List.countP_eq_length_filter]
    unfold cnt
    congr 2
  simp [f_counts_of, ansD]
  rw [lc_filter (p := fun a => decide (a.2 = m)) (g := fun a => W.d (.str a.1)) as]
  · simp [recv, evM]
    have c1 := ce "works"
    have c2 := ce "broken"
    rw [List.countP_map] at c1 c2
    exact ⟨congrArg Nat.cast c1, congrArg Nat.cast c2⟩
  · intro a ha
    by_cases h2 : a.2 = m <;> simp [ansR, bindT, setAll, h2]

end Ev

namespace Ev
open PySem
def sF (w br k : Int) (two : Bool) : Str := if (if two then k < br else 0 < br) then (if k < w then "both" else "broken") else (if k < w then "works" else "")
def hF (w br k : Int) (two : Bool) : Str := if two then (if 2 * k ≤ w + br then "" else if (w + br).fdiv 2 * 2 = w + br then "works" else "broken") else (if w + br < k then "works" else "")
def ruleS (two : Bool) : Str := if two then "two" else "one"

theorem settled_ok (n b : Nat) (h : Hq) (as : List (Str × Int)) (m k : Int) (two : Bool) : callN tab (n + 2) b 1 [.d (ansD as), .d (.int m), .d (.int k), .d (.str (ruleS two))] h = .ok (.d (.str (sF (cnt as "works" m) (cnt as "broken" m) k two))) h := by
  rw [call_of (fd := f_settled) _ _ rfl rfl]
  have s1 : ¬ (("one" : Str) = "two") := by decide +kernel
  obtain ⟨w, hw⟩ : ∃ w : Int, (cnt as "works" m : Int) = w := ⟨_, rfl⟩
  obtain ⟨br, hb⟩ : ∃ w : Int, (cnt as "broken" m : Int) = w := ⟨_, rfl⟩
  rw [hw, hb]
  cases two
  · by_cases h1 : (0 : Int) < br <;> by_cases h2 : k < w <;> simp [f_settled, settled_b0, settled_b1, settled_b2, counts_ok, bindT, setAll, ruleS, sF, s1, hw, hb, h1, h2]
  · by_cases h1 : k < br <;> by_cases h2 : k < w <;> simp [f_settled, settled_b0, settled_b1, settled_b2, counts_ok, bindT, setAll, ruleS, sF, s1, hw, hb, h1, h2]

end Ev

namespace Ev
open PySem
theorem lsettled_ok (n b : Nat) (h : Hq) (as : List (Str × Int)) (m k : Int) (two : Bool) : callN tab (n + 2) b 14 [.d (ansD as), .d (.int m), .d (.int k), .d (.str (ruleS two))] h = .ok (.d (.str (sF (cnt as "works" m) (cnt as "broken" m) k two))) h := by
  rw [call_of (fd := f_law_settled) _ _ rfl rfl]
  have s1 : ¬ (("two" : Str) = "one") := by decide +kernel
  obtain ⟨w, hw⟩ : ∃ w : Int, (cnt as "works" m : Int) = w := ⟨_, rfl⟩
  obtain ⟨br, hb⟩ : ∃ w : Int, (cnt as "broken" m : Int) = w := ⟨_, rfl⟩
  rw [hw, hb]
  cases two
  · by_cases h1 : (0 : Int) < br <;> by_cases h2 : k < w <;> simp [f_law_settled, count_ok, ruleS, sF, s1, hw, hb, h1, h2]
  · by_cases h1 : k < br <;> by_cases h2 : k < w <;> simp [f_law_settled, count_ok, ruleS, sF, s1, hw, hb, h1, h2]

end Ev

namespace Ev
open PySem
inductive Tr where
  | nobody
  | found (c : Int)
  | ask (m : Int) (b w : Tr)
def Tr.d : Tr → PyData
  | .nobody => .tuple [.str "nobody"]
  | .found c => .tuple [.str "found", .int c]
  | .ask m b w => .tuple [.str "ask", .int m, b.d, w.d]
def Tr.dep : Tr → Nat
  | .nobody => 1
  | .found _ => 1
  | .ask _ b w => max b.dep w.dep + 1
def Tr.isAsk : Tr → Bool
  | .ask _ _ _ => true
  | _ => false
def stl (as : List (Str × Int)) (k : Int) (two : Bool) (m : Int) : Str := sF (cnt as "works" m) (cnt as "broken" m) k two
def plc (as : List (Str × Int)) (k : Int) (two : Bool) : Tr → Tr
  | .nobody => .nobody
  | .found c => .found c
  | .ask m b w => if stl as k two m = "" then .ask m b w else if stl as k two m = "works" then plc as k two w else plc as k two b
theorem plc_dep (as : List (Str × Int)) (k : Int) (two : Bool) : ∀ t : Tr, (plc as k two t).dep ≤ t.dep
  | .nobody => Nat.le_refl _
  | .found c => Nat.le_refl _
  | .ask m b w => by
    have h1 := plc_dep as k two b
    have h2 := plc_dep as k two w
    unfold plc
    split
    · exact Nat.le_refl _
    · split <;> simp only [Tr.dep] <;> omega
def moreF (as : List (Str × Int)) (k : Int) (two : Bool) (m : Int) : Int := if two then 2 * k + 1 - cnt as "works" m - cnt as "broken" m else k + 1 - cnt as "works" m
def nd (as : List (Str × Int)) (k : Int) (two : Bool) : Nat → Tr → Int
  | 0, _ => 0
  | f + 1, t => match plc as k two t with
    | .ask m b w => moreF as k two m + (if nd as k two f w > nd as k two f b then nd as k two f w else nd as k two f b)
    | _ => 0
section
theorem rs_f : (ruleS false = ("two" : Str)) = False := by simp only [ruleS]; exact eq_false (by decide +kernel)
theorem rs_t : (ruleS true = ("two" : Str)) = True := by simp only [ruleS]; exact eq_true rfl
theorem s_fa : ¬ (("found" : Str) = "ask") := by decide +kernel
theorem s_na : ¬ (("nobody" : Str) = "ask") := by decide +kernel
theorem s_nf : ¬ (("nobody" : Str) = "found") := by decide +kernel
theorem s_af : ¬ (("ask" : Str) = "found") := by decide +kernel
theorem s_an : ¬ (("ask" : Str) = "nobody") := by decide +kernel
theorem s_fn : ¬ (("found" : Str) = "nobody") := by decide +kernel
theorem s_to : ¬ (("two" : Str) = "one") := by decide +kernel
theorem s_ot : ¬ (("one" : Str) = "two") := by decide +kernel
end
theorem place_loop (n b : Nat) (h : Hq) (as : List (Str × Int)) (k : Int) (two : Bool) : ∀ (t : Tr) (fuel : Nat) (x : Option W), t.dep ≤ fuel →
    (∃ x2, whlGo (fun env h => evE b (callN tab (n + 2)) (.cmp .Eq (.idx (.var 0) (.lit (.int 0))) (.lit (.str "ask"))) env h) (fun env h => evSs b (callN tab (n + 2)) place_in_b0 env h) fuel [some (.d t.d), some (.d (ansD as)), some (.d (.int k)), some (.d (.str (ruleS two))), x] h = .ok (.nx [some (.d (plc as k two t).d), some (.d (ansD as)), some (.d (.int k)), some (.d (.str (ruleS two))), x2]) h) ∨
    whlGo (fun env h => evE b (callN tab (n + 2)) (.cmp .Eq (.idx (.var 0) (.lit (.int 0))) (.lit (.str "ask"))) env h) (fun env h => evSs b (callN tab (n + 2)) place_in_b0 env h) fuel [some (.d t.d), some (.d (ansD as)), some (.d (.int k)), some (.d (.str (ruleS two))), x] h = .ok (.rt (.d (plc as k two t).d)) h
  | t, 0, x, hd => by cases t <;> simp [Tr.dep] at hd
  | .nobody, f + 1, x, hd => .inl ⟨x, by simp [whlGo, Tr.d, plc, s_na]⟩
  | .found c, f + 1, x, hd => .inl ⟨x, by simp [whlGo, Tr.d, plc, s_fa]⟩
  | .ask m bb ww, f + 1, x, hd => by
    simp only [Tr.dep] at hd
    have st := settled_ok n b h as m k two
    rw [show sF (cnt as "works" m) (cnt as "broken" m) k two = stl as k two m from rfl] at st
    by_cases h1 : stl as k two m = ""
    · refine .inr ?_
      simp [whlGo, Tr.d, plc, place_in_b0, place_in_b1, st, h1]
    · by_cases h2 : stl as k two m = "works"
      · have s1 : ¬ (("works" : Str) = "") := by decide +kernel
        have ih := place_loop n b h as k two ww f (some (.d (.str (stl as k two m)))) (by omega)
        rw [h2] at ih
        have e : plc as k two (.ask m bb ww) = plc as k two ww := by simp [plc, h2, s1]
        rw [e]
        rw [whl_step (h1 := h) (h' := h) (env' := [some (.d ww.d), some (.d (ansD as)), some (.d (.int k)), some (.d (.str (ruleS two))), some (.d (.str "works"))]) (by simp [Tr.d]) (by simp [place_in_b0, place_in_b1, Tr.d, st, h2, s1])]
        exact ih
      · have ih := place_loop n b h as k two bb f (some (.d (.str (stl as k two m)))) (by omega)
        have e : plc as k two (.ask m bb ww) = plc as k two bb := by simp [plc, h2, h1]
        rw [e]
        rw [whl_step (h1 := h) (h' := h) (env' := [some (.d bb.d), some (.d (ansD as)), some (.d (.int k)), some (.d (.str (ruleS two))), some (.d (.str (stl as k two m)))]) (by simp [Tr.d]) (by simp [place_in_b0, place_in_b1, Tr.d, st, h2, h1])]
        exact ih
theorem place_ok (n b : Nat) (h : Hq) (as : List (Str × Int)) (k : Int) (two : Bool) (t : Tr) (hd : t.dep ≤ 1000) : callN tab (n + 3) b 2 [.d t.d, .d (ansD as), .d (.int k), .d (.str (ruleS two))] h = .ok (.d (plc as k two t).d) h := by
  rw [call_of (fd := f_place_in) _ _ rfl rfl]
  show finR false h.length (evSs b (callN tab (n + 2)) f_place_in.body [some (.d t.d), some (.d (ansD as)), some (.d (.int k)), some (.d (.str (ruleS two))), none] h) = _
  simp only [f_place_in, s_cons, s_whl]
  rcases place_loop n b h as k two t 1000 none hd with ⟨x, e⟩ | e
  · rw [e]
    simp
  · rw [e]
    simp

theorem lplace_loop (n b : Nat) (h : Hq) (as : List (Str × Int)) (k : Int) (two : Bool) : ∀ (t : Tr) (fuel : Nat), t.dep ≤ fuel →
    whlGo (fun env h => evE b (callN tab (n + 2)) (.and (.cmp .Eq (.idx (.var 0) (.lit (.int 0))) (.lit (.str "ask"))) (.one (.cmp .NotEq (.call 14 (.cons (.var 1) (.cons (.idx (.var 0) (.lit (.int 1))) (.cons (.var 2) (.cons (.var 3) .nil))))) (.lit (.str ""))))) env h) (fun env h => evSs b (callN tab (n + 2)) law_place_b0 env h) fuel [some (.d t.d), some (.d (ansD as)), some (.d (.int k)), some (.d (.str (ruleS two)))] h = .ok (.nx [some (.d (plc as k two t).d), some (.d (ansD as)), some (.d (.int k)), some (.d (.str (ruleS two)))]) h
  | t, 0, hd => by cases t <;> simp [Tr.dep] at hd
  | .nobody, f + 1, hd => by
    rw [whl_end (h1 := h) (by simp [Tr.d, s_na])]
    rfl
  | .found c, f + 1, hd => by
    rw [whl_end (h1 := h) (by simp [Tr.d, s_fa])]
    rfl
  | .ask m bb ww, f + 1, hd => by
    simp only [Tr.dep] at hd
    have st := lsettled_ok n b h as m k two
    rw [show sF (cnt as "works" m) (cnt as "broken" m) k two = stl as k two m from rfl] at st
    by_cases h1 : stl as k two m = ""
    · have e : plc as k two (.ask m bb ww) = .ask m bb ww := by simp [plc, h1]
      rw [e, whl_end (h1 := h) (by simp [Tr.d, st, h1])]
    · by_cases h2 : stl as k two m = "works"
      · have s1 : ¬ (("works" : Str) = "") := by decide +kernel
        have e : plc as k two (.ask m bb ww) = plc as k two ww := by simp [plc, h2, s1]
        rw [e, whl_step (h1 := h) (h' := h) (env' := [some (.d ww.d), some (.d (ansD as)), some (.d (.int k)), some (.d (.str (ruleS two)))]) (by simp [Tr.d, st, h2, s1]) (by simp [law_place_b0, Tr.d, st, h2])]
        exact lplace_loop n b h as k two ww f (by omega)
      · have e : plc as k two (.ask m bb ww) = plc as k two bb := by simp [plc, h1, h2]
        rw [e, whl_step (h1 := h) (h' := h) (env' := [some (.d bb.d), some (.d (ansD as)), some (.d (.int k)), some (.d (.str (ruleS two)))]) (by simp [Tr.d, st, h1]) (by simp [law_place_b0, Tr.d, st, h2])]
        exact lplace_loop n b h as k two bb f (by omega)
theorem lplace_ok (n b : Nat) (h : Hq) (as : List (Str × Int)) (k : Int) (two : Bool) (t : Tr) (hd : t.dep ≤ 1000) : callN tab (n + 3) b 16 [.d t.d, .d (ansD as), .d (.int k), .d (.str (ruleS two))] h = .ok (.d (plc as k two t).d) h := by
  rw [call_of (fd := f_law_place) _ _ rfl rfl]
  show finR false h.length (evSs b (callN tab (n + 2)) f_law_place.body [some (.d t.d), some (.d (ansD as)), some (.d (.int k)), some (.d (.str (ruleS two)))] h) = _
  simp only [f_law_place, s_cons, s_whl]
  rw [lplace_loop n b h as k two t 1000 hd]
  simp

theorem tr_0 (t : Tr) (h : Hq) : evIdx h (.d t.d) (.d (.int 0)) = .ok (.d (.str (match t with | .nobody => "nobody" | .found _ => "found" | .ask _ _ _ => "ask"))) h := by
  cases t <;> simp [Tr.d]
theorem needed_ok (as : List (Str × Int)) (k : Int) (two : Bool) : ∀ (f n b : Nat) (h : Hq) (t : Tr), t.dep ≤ f → f ≤ 900 → callN tab (n + 3 + f) b 5 [.d t.d, .d (ansD as), .d (.int k), .d (.str (ruleS two))] h = .ok (.d (.int (nd as k two f t))) h
  | 0, n, b, h, t, hd, _ => by cases t <;> simp [Tr.dep] at hd
  | f + 1, n, b, h, t, hd, hf => by
    rw [show n + 3 + (f + 1) = (n + 3 + f) + 1 by omega, call_of (fd := f_still_needed) _ _ rfl rfl]
    have pl := place_ok (n + f) b h as k two t (by omega)
    rw [show n + f + 3 = n + 3 + f by omega] at pl
    have pd := plc_dep as k two t
    have ct : ∀ m, callN tab (n + 3 + f) b 0 [.d (ansD as), .d (.int m)] h = .ok (.d (.tuple [.int (cnt as "works" m), .int (cnt as "broken" m)])) h := fun m => by
      rw [show n + 3 + f = (n + 2 + f) + 1 by omega]
      exact counts_ok _ b h as m
    cases e : plc as k two t with
    | nobody => rw [e] at pl; simp [f_still_needed, still_needed_b0, pl, Tr.d, s_na, nd, e]
    | found c => rw [e] at pl; simp [f_still_needed, still_needed_b0, pl, Tr.d, s_fa, nd, e]
    | ask m bb ww =>
      rw [e] at pl pd
      simp only [Tr.dep] at pd
      have i1 := needed_ok as k two f n b h bb (by omega) (by omega)
      have i2 := needed_ok as k two f n b h ww (by omega) (by omega)
      have mx : ∀ i j : Int, evB .max [.d (.int i), .d (.int j)] h = .ok (.d (.int (if j > i then j else i))) h := fun _ _ => rfl
      cases two
      · simp [f_still_needed, pl, Tr.d, nd, e, ct, bindT, setAll, i1, i2, mx, rs_f, moreF]
      · simp [f_still_needed, pl, Tr.d, nd, e, ct, bindT, setAll, i1, i2, mx, rs_t, moreF]
theorem lneeded_ok (as : List (Str × Int)) (k : Int) (two : Bool) : ∀ (f n b : Nat) (h : Hq) (t : Tr), t.dep ≤ f → f ≤ 900 → callN tab (n + 3 + f) b 17 [.d t.d, .d (ansD as), .d (.int k), .d (.str (ruleS two))] h = .ok (.d (.int (nd as k two f t))) h
  | 0, n, b, h, t, hd, _ => by cases t <;> simp [Tr.dep] at hd
  | f + 1, n, b, h, t, hd, hf => by
    rw [show n + 3 + (f + 1) = (n + 3 + f) + 1 by omega, call_of (fd := f_law_needed) _ _ rfl rfl]
    have pl := lplace_ok (n + f) b h as k two t (by omega)
    rw [show n + f + 3 = n + 3 + f by omega] at pl
    have pd := plc_dep as k two t
    have ct : ∀ (s : Str) m, callN tab (n + 3 + f) b 13 [.d (ansD as), .d (.str s), .d (.int m)] h = .ok (.d (.int (cnt as s m))) h := fun s m => by
      rw [show n + 3 + f = (n + 2 + f) + 1 by omega]
      exact count_ok _ b h as s m
    have tm : callN tab (n + 3 + f) b 15 [.d (.int k), .d (.str (ruleS two))] h = .ok (.d (.int (if two then 2 * k + 1 else k + 1))) h := by
      rw [show n + 3 + f = (n + 2 + f) + 1 by omega, call_of (fd := f_law_times) _ _ rfl rfl]
      cases two <;> simp [f_law_times, ruleS, s_to]
    cases e : plc as k two t with
    | nobody => rw [e] at pl; simp [f_law_needed, law_needed_b0, pl, Tr.d, s_na, nd, e]
    | found c => rw [e] at pl; simp [f_law_needed, law_needed_b0, pl, Tr.d, s_fa, nd, e]
    | ask m bb ww =>
      rw [e] at pl pd
      simp only [Tr.dep] at pd
      have i1 := lneeded_ok as k two f n b h bb (by omega) (by omega)
      have i2 := lneeded_ok as k two f n b h ww (by omega) (by omega)
      have cu : cutL [PyData.str "ask", .int m, bb.d, ww.d] (some 2) none = [bb.d, ww.d] := rfl
      have mx : ∀ i j : Int, evB .max [.d (.list [.int i, .int j])] h = .ok (.d (.int (if j > i then j else i))) h := fun i j => by
        simp only [evB, toD_d, Option.bind_some]
        rw [show listInts (.list [.int i, .int j]) = some [i, j] from listInts_m (l := [i, j])]
        simp only [Option.bind_some, maxI, Option.map_some, liftO_s]
        by_cases hh : i < j <;> simp [hh] <;> (intro _; omega)
      cases two
      · simp [f_law_needed, pl, Tr.d, nd, e, ct, tm, cu, lcGo, i1, i2, lcEnd, mx, rs_f, moreF]
      · simp [f_law_needed, law_needed_b1, pl, Tr.d, nd, e, ct, tm, cu, lcGo, i1, i2, lcEnd, mx, rs_t, moreF]
        omega

theorem next_ok (n b : Nat) (h : Hq) (as : List (Str × Int)) (k : Int) (two : Bool) (t : Tr) (hd : t.dep ≤ 1000) : callN tab (n + 4) b 3 [.d t.d, .d (ansD as), .d (.int k), .d (.str (ruleS two))] h = .ok (.d (.int (match plc as k two t with | .ask m _ _ => m | _ => -1))) h := by
  rw [call_of (fd := f_next_make) _ _ rfl rfl]
  have pl := place_ok n b h as k two t hd
  cases e : plc as k two t <;> rw [e] at pl <;> simp [f_next_make, pl, Tr.d, s_fa, s_na]
theorem told_ok (n b : Nat) (h : Hq) (as : List (Str × Int)) (k : Int) (two : Bool) (t : Tr) (hd : t.dep ≤ 1000) : callN tab (n + 4) b 4 [.d t.d, .d (ansD as), .d (.int k), .d (.str (ruleS two))] h = .ok (.d (.int (match plc as k two t with | .ask _ _ _ => -1 | .found c => c | .nobody => -2))) h := by
  rw [call_of (fd := f_told_class) _ _ rfl rfl]
  have pl := place_ok n b h as k two t hd
  cases e : plc as k two t <;> rw [e] at pl <;> simp [f_told_class, told_class_b0, pl, Tr.d, s_fa, s_na, s_nf]

theorem hist_1' (h : Hq) {rows : List (Str × List Int)} : (evIdx h (.d (histD rows)) (.d (.int 1))) = .ok (.d (.tuple (rows.map rowD))) h := by simp [histD]
theorem tree_ok {rows : List (Str × List Int)} (hr : rows ≠ []) : ∀ (deep n b : Nat) {bx : Ob} (t : Hq), IsBox bx → ∃ (tr : Tr) (bx' : Ob), tr.dep ≤ deep + 1 ∧ IsBox bx' ∧ callN tab (n + 3 + deep) b 18 [.l 0, .d (histD rows), .d (.int deep)] (bx :: t) = .ok (.d tr.d) (bx' :: t) := by
  have hl : (0 : Int) < rows.length := by
    have := List.length_pos_iff.mpr hr
    omega
  have leaf : ∀ (deep n b : Nat) {bx : Ob} (t : Hq), IsBox bx → ∃ (tr : Tr) (bx' : Ob), tr.dep ≤ deep + 1 ∧ IsBox bx' ∧ evSs b (callN tab (n + 2)) law_tree_b0 [some (.l 0), some (.d (histD rows)), some (.d (.int deep)), none, none, none] (bx :: t) = .ok (.rt (.d tr.d)) (bx' :: t) ∧ ∀ x, evSs b (callN tab (n + 2)) law_tree_b0 [some (.l 0), some (.d (histD rows)), some (.d (.int deep)), some x, none, none] (bx :: t) = .ok (.rt (.d tr.d)) (bx' :: t) := by
    intro deep n b bx t hb
    obtain ⟨v, bx1, v0, v1, hb1, e⟩ := draw_ok (n + 1) b t hb (m := 5) (by decide)
    obtain ⟨x, hx, bx2, hb2, e2⟩ := pick_ok n b t [.tuple [.str "nobody"], .tuple [.str "found", .int v]] hb1 (by simp)
    simp only [List.mem_cons, List.not_mem_nil, or_false] at hx
    rcases hx with rfl | rfl
    · exact ⟨.nobody, bx2, by simp [Tr.dep], hb2, by simp [law_tree_b0, e, e2, Tr.d], fun x => by simp [law_tree_b0, e, e2, Tr.d]⟩
    · exact ⟨.found v, bx2, by simp [Tr.dep], hb2, by simp [law_tree_b0, e, e2, Tr.d], fun x => by simp [law_tree_b0, e, e2, Tr.d]⟩
  intro deep
  induction deep with
  | zero =>
    intro n b bx t hb
    obtain ⟨v, bx1, v0, v1, hb1, e⟩ := draw_ok (n + 1) b t hb (m := 6) (by decide)
    obtain ⟨tr, bx2, hd, hb2, -, e2⟩ := leaf 0 n b t hb1
    refine ⟨tr, bx2, hd, hb2, ?_⟩
    show callN tab ((n + 2) + 1) b _ _ _ = _
    rw [call_of (fd := f_law_tree) _ _ rfl rfl]
    have e2' : evSs b (callN tab (n + 2)) law_tree_b0 [some (.l 0), some (.d (histD rows)), some (.d (.int 0)), some (.d (.int v)), none, none] (bx1 :: t) = .ok (.rt (.d tr.d)) (bx2 :: t) := e2 (.d (.int v))
    simp [f_law_tree, e, e2']
  | succ deep ih =>
    intro n b bx t hb
    obtain ⟨v, bx1, v0, v1, hb1, e⟩ := draw_ok (n + 2 + deep) b t hb (m := 6) (by decide)
    rw [show n + 3 + (deep + 1) = (n + 3 + deep) + 1 by omega, call_of (fd := f_law_tree) _ _ rfl rfl]
    rw [show n + 2 + deep + 1 = n + 3 + deep by omega] at e
    have hne : ¬ ((deep : Int) + 1 = 0) := by omega
    by_cases hv : v = 0
    · obtain ⟨tr, bx2, hd, hb2, -, e2⟩ := leaf (deep + 1) (n + 1 + deep) b t hb1
      refine ⟨tr, bx2, hd, hb2, ?_⟩
      have e2' := e2 (.d (.int v))
      rw [show n + 1 + deep + 2 = n + 3 + deep by omega, show ((deep + 1 : Nat) : Int) = (deep : Int) + 1 by omega, hv] at e2'
      rw [hv] at e
      simp [f_law_tree, e, hne, e2']
    · obtain ⟨mk, bx2, m0, m1, hb2, e2⟩ := draw_ok (n + 2 + deep) b t hb1 hl
      rw [show n + 2 + deep + 1 = n + 3 + deep by omega] at e2
      obtain ⟨t1, bx3, d1, hb3, e3⟩ := ih n b t hb2
      obtain ⟨t2, bx4, d2, hb4, e4⟩ := ih n b t hb3
      refine ⟨.ask mk t1 t2, bx4, by simp only [Tr.dep]; omega, hb4, ?_⟩
      simp [f_law_tree, e, hne, hv, hist_1', e2, e3, e4, Tr.d]
end Ev

namespace Ev
open PySem
theorem ans_slice (as : List (Str × Int)) (j : Nat) (h : Hq) : evSlc h (.d (ansD as)) none (some (j : Int)) = .ok (.d (ansD (as.take j))) h := by
  simp [ansD, cut_take, List.map_take]
theorem dpt_l2 {i j : Int} : dpt (.list [.int i, .int j]) = true := dpt_li (l := [i, j])
theorem eqv_l2 {i j : Int} : PyData.eqv (.list [.int i, .int j]) (.list [.int i, .int j]) = true := (eqv_li (l := [i, j]) (l' := [i, j])).trans (by simp)
theorem plain (ns : List Int) (hns : ns.length ≤ 63) : ∃ hz, callN tab 12 0 19 [.d (.list (ns.map .int))] [] = .ok (.d (.bool true)) hz := by
  obtain ⟨ds, e0⟩ := digits_ok 9 0 [] ns
  have b0 : IsBox (.lst [.list (ds.map .int), .int 0]) := ⟨ds, 0, rfl⟩
  obtain ⟨rows, bx1, hr, hrl, hR, b1, e1⟩ := history_ok 8 0 [] (most := 7) b0 (by decide) (by decide)
  obtain ⟨tr, bxt, hd, bt, et⟩ := tree_ok hr 4 4 0 [] b1
  obtain ⟨k, bx2, k0, k1, b2, e2⟩ := draw_ok 10 0 [] (m := 4) bt (by decide)
  obtain ⟨as, bx3, hal, hA, b3, e3⟩ := answers_ok 8 0 [] (most := 30) b2 (by decide) (by decide) hr
  have inner : ∀ (two : Bool) (x1 x2 x3 x4 : Option W), ∃ env' h', evSs 0 (callN tab 11) law_b0 [some (.d (.list (ns.map .int))), some (.l 0), some (.d (histD rows)), some (.d tr.d), some (.d (.int k)), some (.d (ansD as)), some (.d (.str (ruleS two))), x1, x2, x3, x4] [bx3] = .ok (.nx env') h' ∧
      ∃ x0 x1 x2 x3 x4, env' = [some (.d (.list (ns.map .int))), some (.l 0), some (.d (histD rows)), some (.d tr.d), some (.d (.int k)), some (.d (ansD as)), x0, x1, x2, x3, x4] ∧ h' = [bx3] := by
    intro two x1 x2 x3 x4
    obtain ⟨env', h', e, y1, y2, y3, y4, rfl, rfl⟩ := forGo_ok (f := fun w env h => match bindT [7] false w env with
        | some env => evSs 0 (callN tab 11) law_b1 env h
        | none => .bad) (fun j env h => ∃ x1 x2 x3 x4, env = [some (.d (.list (ns.map .int))), some (.l 0), some (.d (histD rows)), some (.d tr.d), some (.d (.int k)), some (.d (ansD as)), some (.d (.str (ruleS two))), x1, x2, x3, x4] ∧ h = [bx3]) (rangeUp 0 ((as.length : Int) + 1)) 0 [some (.d (.list (ns.map .int))), some (.l 0), some (.d (histD rows)), some (.d tr.d), some (.d (.int k)), some (.d (ansD as)), some (.d (.str (ruleS two))), x1, x2, x3, x4] [bx3] ⟨_, _, _, _, rfl, rfl⟩ fun j w env h e i => by
          obtain ⟨rfl, hj⟩ := rangeUp_at e
          obtain ⟨x1, x2, x3, x4, rfl, rfl⟩ := i
          have pl := lplace_ok 8 0 [bx3] (as.take j) k two tr (by omega)
          have nx := next_ok 7 0 [bx3] (as.take j) k two tr (by omega)
          have tl := told_ok 7 0 [bx3] (as.take j) k two tr (by omega)
          have n1 := needed_ok (as.take j) k two 8 0 0 [bx3] tr (by omega) (by decide)
          have n2 := lneeded_ok (as.take j) k two 8 0 0 [bx3] tr (by omega) (by decide)
          have l1 : dlook [("ask", -1), ("nobody", -2)] "nobody" = some (-2) := by decide +kernel
          have l2 : dlook [("ask", -1), ("nobody", -2)] "found" = none := by decide +kernel
          have l3 : dlook [("ask", -1), ("nobody", -2)] "ask" = some (-1) := by decide +kernel
          simp only [Nat.zero_add, Int.zero_add]
          cases ep : plc (as.take j) k two tr with
          | nobody =>
            rw [ep] at pl nx tl
            have a1 : atZ [PyData.str "nobody"] (-1) = some (.str "nobody") := rfl
            refine ⟨_, _, ?_, some (.d (.int j)), some (.d (ansD (as.take j))), some (.d Tr.nobody.d), some (.d (.list [.int (-1), .int (-2)])), rfl, rfl⟩
            simp [law_b1, ans_slice, pl, nx, tl, n1, n2, Tr.d, a1, l1, s_na, dpt_l2, eqv_l2]
          | found c =>
            rw [ep] at pl nx tl
            have a1 : atZ [PyData.str "found", .int c] (-1) = some (.int c) := rfl
            refine ⟨_, _, ?_, some (.d (.int j)), some (.d (ansD (as.take j))), some (.d (Tr.found c).d), some (.d (.list [.int (-1), .int c])), rfl, rfl⟩
            simp [law_b1, ans_slice, pl, nx, tl, n1, n2, Tr.d, a1, l2, s_fa, dpt_l2, eqv_l2]
          | ask m bb ww =>
            rw [ep] at pl nx tl
            have a1 : atZ [PyData.str "ask", .int m, bb.d, ww.d] (-1) = some ww.d := rfl
            refine ⟨_, _, ?_, some (.d (.int j)), some (.d (ansD (as.take j))), some (.d (Tr.ask m bb ww).d), some (.d (.list [.int m, .int (-1)])), rfl, rfl⟩
            simp [law_b1, law_b2, ans_slice, pl, nx, tl, n1, n2, Tr.d, a1, l3, dpt_l2, eqv_l2]
    refine ⟨_, _, ?_, some (.d (.str (ruleS two))), y1, y2, y3, y4, rfl, rfl⟩
    have rg2 : rgOk 0 ((as.length : Int) + 1) = true := rg_of (by omega) (by omega) (by omega) (by omega)
    have la : evB .len [.d (ansD as)] [bx3] = .ok (.d (.int as.length)) [bx3] := by simp [ansD]
    simp only [bind_1] at e
    simp [law_b0, s_for, rg2, la]
    simp [e]
  obtain ⟨env', h', e, y0, y1, y2, y3, y4, rfl, rfl⟩ := forGo_inv (f := fun w env h => match bindT [6] false w env with
        | some env => evSs 0 (callN tab 11) law_b0 env h
        | none => .bad) (fun env h => ∃ x0 x1 x2 x3 x4, env = [some (.d (.list (ns.map .int))), some (.l 0), some (.d (histD rows)), some (.d tr.d), some (.d (.int k)), some (.d (ansD as)), x0, x1, x2, x3, x4] ∧ h = [bx3]) [.d (.str "two"), .d (.str "one")] [some (.d (.list (ns.map .int))), some (.l 0), some (.d (histD rows)), some (.d tr.d), some (.d (.int k)), some (.d (ansD as)), none, none, none, none, none] [bx3] ⟨_, _, _, _, _, rfl, rfl⟩ fun w env h hw i => by
          obtain ⟨x0, x1, x2, x3, x4, rfl, rfl⟩ := i
          simp only [List.mem_cons, List.not_mem_nil, or_false] at hw
          rcases hw with rfl | rfl
          · exact inner true x1 x2 x3 x4
          · exact inner false x1 x2 x3 x4
  refine ⟨[], ?_⟩
  rw [call_of (fd := f_law) _ _ rfl rfl]
  simp only [bind_1] at e
  have et' : callN tab 11 0 18 [.l 0, .d (histD rows), .d (.int 4)] [bx1] = .ok (.d tr.d) [bxt] := et
  simp [f_law, e0, e1, et', e2, e3, s_for, e]
end Ev

namespace Ev
open PySem PySem.Spec PyProof.Rows L2
def top (i : Nat) : Stmt := PySem.Challenge.pw_firstbreak_k23_places_in_trees.main.body.getD i (.Pass ⟨0, 0, 0, 0⟩)
def d_counts_of : DF := ⟨"counts_of", top 1, ["answers", "make"], n_counts_of, f_counts_of⟩
theorem bd_counts_of : d_counts_of.Bnd := fun _ _ _ _ _ _ us hl => match us, hl with | [_, _], _ => rfl
def d_settled : DF := ⟨"settled", top 2, ["answers", "make", "k", "rule"], n_settled, f_settled⟩
theorem bd_settled : d_settled.Bnd := fun _ _ _ _ _ _ us hl => match us, hl with | [_, _, _, _], _ => rfl
def d_place_in : DF := ⟨"place_in", top 4, ["tree", "answers", "k", "rule"], n_place_in, f_place_in⟩
theorem bd_place_in : d_place_in.Bnd := fun _ _ _ _ _ _ us hl => match us, hl with | [_, _, _, _], _ => rfl
def d_next_make : DF := ⟨"next_make", top 5, ["tree", "answers", "k", "rule"], n_next_make, f_next_make⟩
theorem bd_next_make : d_next_make.Bnd := fun _ _ _ _ _ _ us hl => match us, hl with | [_, _, _, _], _ => rfl
def d_told_class : DF := ⟨"told_class", top 6, ["tree", "answers", "k", "rule"], n_told_class, f_told_class⟩
theorem bd_told_class : d_told_class.Bnd := fun _ _ _ _ _ _ us hl => match us, hl with | [_, _, _, _], _ => rfl
def d_still_needed : DF := ⟨"still_needed", top 7, ["tree", "answers", "k", "rule"], n_still_needed, f_still_needed⟩
theorem bd_still_needed : d_still_needed.Bnd := fun _ _ _ _ _ _ us hl => match us, hl with | [_, _, _, _], _ => rfl
def d_law_cell : DF := ⟨"_law_cell", top 9, ["_law_script", "_law_k"], n_law_cell, f_law_cell⟩
theorem bd_law_cell : d_law_cell.Bnd := fun _ _ _ _ _ _ us hl => match us, hl with | [_, _], _ => rfl
def d_law_digits : DF := ⟨"_law_digits", top 10, ["_law_script", "_law_first", "_law_last"], n_law_digits, f_law_digits⟩
theorem bd_law_digits : d_law_digits.Bnd := fun _ _ _ _ _ _ us hl => match us, hl with | [_, _, _], _ => rfl
def d_law_draw : DF := ⟨"_law_draw", top 11, ["_law_box", "_law_many"], n_law_draw, f_law_draw⟩
theorem bd_law_draw : d_law_draw.Bnd := fun _ _ _ _ _ _ us hl => match us, hl with | [_, _], _ => rfl
def d_law_pick : DF := ⟨"_law_pick", top 12, ["_law_box", "_law_things"], n_law_pick, f_law_pick⟩
theorem bd_law_pick : d_law_pick.Bnd := fun _ _ _ _ _ _ us hl => match us, hl with | [_, _], _ => rfl
def d_law_parents : DF := ⟨"_law_parents", top 13, ["_law_box", "_law_k", "_law_ends"], n_law_parents, f_law_parents⟩
theorem bd_law_parents : d_law_parents.Bnd := fun _ _ _ _ _ _ us hl => match us, hl with | [_, _, _], _ => rfl
def d_law_history : DF := ⟨"_law_history", top 14, ["_law_box", "_law_most"], n_law_history, f_law_history⟩
theorem bd_law_history : d_law_history.Bnd := fun _ _ _ _ _ _ us hl => match us, hl with | [_, _], _ => rfl
def d_law_answers : DF := ⟨"_law_answers", top 15, ["_law_box", "_law_history_here", "_law_most"], n_law_answers, f_law_answers⟩
theorem bd_law_answers : d_law_answers.Bnd := fun _ _ _ _ _ _ us hl => match us, hl with | [_, _, _], _ => rfl
def d_law_count : DF := ⟨"_law_count", top 16, ["_law_answers_here", "_law_kind", "_law_make"], n_law_count, f_law_count⟩
theorem bd_law_count : d_law_count.Bnd := fun _ _ _ _ _ _ us hl => match us, hl with | [_, _, _], _ => rfl
def d_law_settled : DF := ⟨"_law_settled", top 17, ["_law_answers_here", "_law_make", "_law_k", "_law_rule"], n_law_settled, f_law_settled⟩
theorem bd_law_settled : d_law_settled.Bnd := fun _ _ _ _ _ _ us hl => match us, hl with | [_, _, _, _], _ => rfl
def d_law_times : DF := ⟨"_law_times", top 18, ["_law_k", "_law_rule"], n_law_times, f_law_times⟩
theorem bd_law_times : d_law_times.Bnd := fun _ _ _ _ _ _ us hl => match us, hl with | [_, _], _ => rfl
def d_law_place : DF := ⟨"_law_place", top 19, ["_law_tree_here", "_law_answers_here", "_law_k", "_law_rule"], n_law_place, f_law_place⟩
theorem bd_law_place : d_law_place.Bnd := fun _ _ _ _ _ _ us hl => match us, hl with | [_, _, _, _], _ => rfl
def d_law_needed : DF := ⟨"_law_needed", top 20, ["_law_tree_here", "_law_answers_here", "_law_k", "_law_rule"], n_law_needed, f_law_needed⟩
theorem bd_law_needed : d_law_needed.Bnd := fun _ _ _ _ _ _ us hl => match us, hl with | [_, _, _, _], _ => rfl
def d_law_tree : DF := ⟨"_law_tree", top 21, ["_law_box", "_law_history_here", "_law_deep"], n_law_tree, f_law_tree⟩
theorem bd_law_tree : d_law_tree.Bnd := fun _ _ _ _ _ _ us hl => match us, hl with | [_, _, _], _ => rfl
def d_law : DF := ⟨"law", top 22, ["_law_script"], n_law, f_law⟩
theorem bd_law : d_law.Bnd := fun _ _ _ _ _ _ us hl => match us, hl with | [_], _ => rfl
def dfs : List DF := [d_counts_of, d_settled, d_place_in, d_next_make, d_told_class, d_still_needed, d_law_cell, d_law_digits, d_law_draw, d_law_pick, d_law_parents, d_law_history, d_law_answers, d_law_count, d_law_settled, d_law_times, d_law_place, d_law_needed, d_law_tree, d_law]
theorem bd : ∀ d ∈ dfs, d.Bnd := List.forall_mem_cons.mpr ⟨bd_counts_of, List.forall_mem_cons.mpr ⟨bd_settled, List.forall_mem_cons.mpr ⟨bd_place_in, List.forall_mem_cons.mpr ⟨bd_next_make, List.forall_mem_cons.mpr ⟨bd_told_class, List.forall_mem_cons.mpr ⟨bd_still_needed, List.forall_mem_cons.mpr ⟨bd_law_cell, List.forall_mem_cons.mpr ⟨bd_law_digits, List.forall_mem_cons.mpr ⟨bd_law_draw, List.forall_mem_cons.mpr ⟨bd_law_pick, List.forall_mem_cons.mpr ⟨bd_law_parents, List.forall_mem_cons.mpr ⟨bd_law_history, List.forall_mem_cons.mpr ⟨bd_law_answers, List.forall_mem_cons.mpr ⟨bd_law_count, List.forall_mem_cons.mpr ⟨bd_law_settled, List.forall_mem_cons.mpr ⟨bd_law_times, List.forall_mem_cons.mpr ⟨bd_law_place, List.forall_mem_cons.mpr ⟨bd_law_needed, List.forall_mem_cons.mpr ⟨bd_law_tree, List.forall_mem_cons.mpr ⟨bd_law, fun _ h => nomatch h⟩⟩⟩⟩⟩⟩⟩⟩⟩⟩⟩⟩⟩⟩⟩⟩⟩⟩⟩⟩
def gis : List (Str × Int) := []
theorem ck : dfs.all (DF.chk (dfs.map (·.nm)) gis) = true := by decide +kernel
abbrev Rw : PySem.W.OpenRow := PySem.W.OpenLaw.row PySem.Challenge.rw_firstbreak_k23_places_in_trees
abbrev hk : PySem.W.Hook := He.hookD 4 (fas dfs gis) (fns dfs)
def ob (s : PySem.W.SharedT) : He.AlD := He.obsDG 4 (fas dfs gis) (fns dfs) (HandSHeadRun.getT s)
theorem ob_eq (s : PySem.W.SharedT) : ob s = hk.obs s.abs := He.obsDG_eq (HandSHeadRun.getT_eq s)
def loo : List PySem.Str := ["__name__", "counts_of", "settled", "place_in", "next_make", "told_class", "still_needed", "_law_cell", "_law_digits", "_law_draw", "_law_pick", "_law_parents", "_law_history", "_law_answers", "_law_count", "_law_settled", "_law_times", "_law_place", "_law_needed", "_law_tree"]
theorem run (w : World) : HandSHeadRun.RunEq Rw (PySem.W.view Rw.prog [22]) hk ob 3000 ["__name__", "counts_of", "settled", "place_in", "next_make", "told_class", "still_needed", "_law_cell", "_law_digits", "_law_draw", "_law_pick", "_law_parents", "_law_history", "_law_answers", "_law_count", "_law_settled", "_law_times", "_law_place", "_law_needed", "_law_tree"] w := by
  intro os
  kernel_rfl
end Ev
open PySem PySem.W PySem.Calls PyProof.Rows
theorem PySem.Challenge.cw_firstbreak_k23_places_in_trees_holds : PySem.Challenge.rw_firstbreak_k23_places_in_trees.Holds := by
  w_on; o_law
  refine HandSHeadRun.head_any (r := OpenLaw.row PySem.Challenge.rw_firstbreak_k23_places_in_trees) (q := view (OpenLaw.row PySem.Challenge.rw_firstbreak_k23_places_in_trees).prog [22]) (H := Ev.hk) (ob := Ev.ob) (M := 3000) (loose := ["__name__", "counts_of", "settled", "place_in", "next_make", "told_class", "still_needed", "_law_cell", "_law_digits", "_law_draw", "_law_pick", "_law_parents", "_law_history", "_law_answers", "_law_count", "_law_settled", "_law_times", "_law_place", "_law_needed", "_law_tree"]) (d := HandSHeadRun.topDef (OpenLaw.row PySem.Challenge.rw_firstbreak_k23_places_in_trees).prog 22) (kwd := []) Ev.ob_eq
    (by kernel_rfl) (fun s => by kernel_rfl) Ev.run (by kernel_rfl) (by kernel_rfl) (by kernel_rfl) (by rfl) (by first | assumption | decide +kernel) (by decide +kernel) ⟨rfl, rfl, rfl, rfl, rfl, by decide +kernel⟩ ?hw ?hc
  case hw => w_witness2
  case hc =>
    refine L2.walk_ofE (l := PySem.Challenge.rw_firstbreak_k23_places_in_trees) (n := 63) (k := 12) (x := "_law_script") (CX := Ev.CXW (PySem.Challenge.rw_firstbreak_k23_places_in_trees).prog) rfl (by decide) (by kernel_rfl) ⟨rfl, by decide, by decide⟩ ?F (fun _ _ _ _ z => Ev.CXW.none z)
    intro w mg fa h Y G hmg0
    obtain ⟨K, KX, c⟩ := Y
    have hmg : mg ("law" : PySem.Str) = some (.ref fa) := by
      have e : (HandSHeadRun.topDef (OpenLaw.row PySem.Challenge.rw_firstbreak_k23_places_in_trees).prog 22).name = ("law" : PySem.Str) := by kernel_rfl
      rw [← e]
      exact hmg0
    exact Ev.law_facts (n := 11) (i := 19) (d := Ev.d_law) KX G c Ev.ck Ev.bd rfl rfl hmg Ev.plain
