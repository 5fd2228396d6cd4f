import PyProof.Rows.All
import HandS.ForMost
import KE.SortData
import HandS.Flow
import HandS.Deep
import HandS.TupAny
import HandS.IsInst
import HandS.Style
import PyProof.TupleOfStr
import HandS.Zip
import HandS.Defaults
import KE.KDictList
import HandS.Conv
import HandS.TupSets
import HandS.SetTxt0
import HandS.EndBits
import HandS.Head0
import HandS.Head1
import HandS.Head2
import HandS.HeadEnd
import HandS.HeadHook1
import HandS.HeadHook2
import HandS.HeadHook4
import PySem.Challenge.RW_reportalike_k00_steps_plans_counts_or_no
set_option Elab.async false
set_option linter.all false
set_option autoImplicit false
set_option maxRecDepth 100000
/-! Ra: a small evaluator over plain data. -/
namespace Ra
open PySem

/-- a value of the evaluator: data; a list that is new; a cell (a list that may be changed) -/
inductive Val where
  | d (x : PyData) | fr (xs : List PyData) | mr (k : Nat)
structure Cell where
  fz : Bool
  xs : List PyData
abbrev Mem := List Cell
structure Exn where
  cls : Nat
  vals : List PyData
inductive Res (α : Type) where
  | ok (a : α) (m : Mem) | exc (x : Exn) (m : Mem) | fail
def Res.bind {α β : Type} (r : Res α) (f : α → Mem → Res β) : Res β :=
  match r with
  | .ok a m => f a m
  | .exc x m => .exc x m
  | .fail => .fail
@[simp] theorem Res.bind_ok {α β : Type} (a : α) (m : Mem) (f : α → Mem → Res β) : (Res.ok a m).bind f = f a m := rfl
@[simp] theorem Res.bind_fail {α β : Type} (f : α → Mem → Res β) : (Res.fail : Res α).bind f = .fail := rfl
@[simp] theorem Res.bind_exc {α β : Type} (x : Exn) (m : Mem) (f : α → Mem → Res β) : (Res.exc x m : Res α).bind f = .exc x m := rfl
def optR {α : Type} (o : Option α) (m : Mem) : Res α :=
  match o with
  | some a => .ok a m
  | none => .fail
@[simp] theorem optR_some {α : Type} (a : α) (m : Mem) : optR (some a) m = .ok a m := rfl
@[simp] theorem optR_none {α : Type} (m : Mem) : optR (none : Option α) m = .fail := rfl

def Val.nf : Val → Val
  | .fr xs => .d (.list xs)
  | v => v
/-- read a value -/
def rd (m : Mem) : Val → Option PyData
  | .d x => some x
  | .fr xs => some (.list xs)
  | .mr k => (m[k]?).map fun c => .list c.xs
/-- put a value into a container: a cell is fixed -/
def frz (v : Val) (m : Mem) : Res PyData :=
  match v with
  | .d x => .ok x m
  | .fr xs => .ok (.list xs) m
  | .mr k => match m[k]? with
    | some c => .ok (.list c.xs) (m.set k { c with fz := true })
    | none => .fail
/-- a new list becomes a cell -/
def mkCell (v : Val) (m : Mem) : Res Val :=
  match v with
  | .fr xs => .ok (.mr m.length) (m ++ [⟨false, xs⟩])
  | .d x => .ok (.d x) m
  | .mr k => .ok (.mr k) m

inductive Bop where
  | add | sub | mul | fdiv | mod | pow
  deriving DecidableEq
inductive Cop where
  | eq | ne | lt | le | gt | ge | isin | notin
  deriving DecidableEq
inductive Cls where
  | int | bool | str | list | tuple | dict
  deriving DecidableEq
inductive Bi where
  | len | abs | int | list | tuple | sorted | sortedset | all | any | min2 | max2
  deriving DecidableEq
/-- what is walked -/
inductive Sk where
  | seq | range | range2 | zip | enum
  deriving DecidableEq
inductive Tg where
  | nm (i : Nat) | tp (ts : List Tg)

/-- 2 ^ 24 -/
def lim : Nat := 16777216
/-- the texts that are served -/
def sOk (x : Str) : Bool := PyData.strOk x && decide (x.length ≤ lim)
def small64 (i : Int) : Bool := decide (-18446744073709551616 < i) && decide (i < 18446744073709551616)

def addD : PyData → PyData → Option Val
  | .int i, .int j => some (.d (.int (i + j)))
  | .str x, .str y => if x.length + y.length ≤ lim then some (.d (.str (x ++ y))) else none
  | .list xs, .list ys => if xs.length + ys.length ≤ lim then some (.fr (xs ++ ys)) else none
  | .tuple xs, .tuple ys => if xs.length + ys.length ≤ lim then some (.d (.tuple (xs ++ ys))) else none
  | _, _ => none
def subD : PyData → PyData → Option Val
  | .int i, .int j => some (.d (.int (i - j)))
  | _, _ => none
def mulD : PyData → PyData → Option Val
  | .int i, .int j => if (small64 i || small64 j) = true then some (.d (.int (i * j))) else none
  | .list xs, .int k => if 0 ≤ k ∧ k < 1000000 ∧ xs.length * k.toNat ≤ lim then some (.fr (List.replicate k.toNat xs).flatten) else none
  | _, _ => none
def fdivD : PyData → PyData → Option Val
  | .int i, .int j => if j ≠ 0 ∧ j.natAbs < 1073741824 then some (.d (.int (i.fdiv j))) else none
  | _, _ => none
def modD : PyData → PyData → Option Val
  | .int i, .int j => if j ≠ 0 then some (.d (.int (i.fmod j))) else none
  | _, _ => none
def powD : PyData → PyData → Option Val
  | .int i, .int j => if 0 ≤ j ∧ j ≤ 1000 ∧ i.natAbs < 18446744073709551616 then some (.d (.int (i ^ j.toNat))) else none
  | _, _ => none
def bop : Bop → PyData → PyData → Option Val
  | .add => addD
  | .sub => subD
  | .mul => mulD
  | .fdiv => fdivD
  | .mod => modD
  | .pow => powD

def deep (x y : PyData) : Bool := decide (min x.depth y.depth ≤ 64)
def strLt (x y : Str) : Bool := decide (x.cps.toList < y.cps.toList)
def strLe (x y : Str) : Bool := decide (x.cps.toList ≤ y.cps.toList)
def inStr (x y : Str) : Bool := !(Builtin.Str.occurrences y x 0 y.length 1).isEmpty
/-- x in ys -/
def inAll (x : PyData) (ys : List PyData) : Option Bool := if x.depth ≤ 64 then some (ys.any fun y => PyData.eqv y x) else none
def ltD : PyData → PyData → Option Bool
  | .int i, .int j => some (decide (i < j))
  | .str i, .str j => some (strLt i j)
  | .tuple xs, .tuple ys => if (PySem.W.alike (.tuple xs) (.tuple ys) && deep (.tuple xs) (.tuple ys)) = true then some (PySem.W.dataLt (.tuple xs) (.tuple ys)) else none
  | _, _ => none
def leD : PyData → PyData → Option Bool
  | .int i, .int j => some (decide (i ≤ j))
  | _, _ => none
def gtD : PyData → PyData → Option Bool
  | .int i, .int j => some (decide (j < i))
  | _, _ => none
def geD : PyData → PyData → Option Bool
  | .int i, .int j => some (decide (j ≤ i))
  | _, _ => none
def inD : PyData → PyData → Option Bool
  | .str x, .str y => some (inStr x y)
  | x, .list ys => inAll x ys
  | x, .tuple ys => inAll x ys
  | _, _ => none
def cmp : Cop → PyData → PyData → Option Bool
  | .eq, x, y => if deep x y = true then some (PyData.eqv x y) else none
  | .ne, x, y => if deep x y = true then some (!PyData.eqv x y) else none
  | .lt, x, y => ltD x y
  | .le, x, y => leD x y
  | .gt, x, y => gtD x y
  | .ge, x, y => geD x y
  | .isin, x, y => inD x y
  | .notin, x, y => (inD x y).map (!·)

def isNone : PyData → Bool
  | .none => true
  | _ => false
def truth : PyData → Option Bool
  | .none => some false
  | .bool b => some b
  | .int i => some (i != 0)
  | .str s => some (s.length != 0)
  | .list xs => some (!xs.isEmpty)
  | .tuple xs => some (!xs.isEmpty)
  | .dict _ => none

def isi : PyData → Cls → Bool
  | .bool _, .bool => true
  | .bool _, .int => true
  | .int _, .int => true
  | .str _, .str => true
  | .list _, .list => true
  | .tuple _, .tuple => true
  | _, _ => false

def one (c : Nat) : PyData := .str ⟨#[c]⟩
def signs (s : Str) : List PyData := s.cps.toList.map one
/-- the items of a sequence -/
def items : PyData → Option (List PyData)
  | .list xs => some xs
  | .tuple xs => some xs
  | .str s => some (signs s)
  | _ => none
def idx (x : PyData) (i : PyData) : Option PyData :=
  match x, i with
  | .list xs, .int i => L2.atI xs i
  | .tuple xs, .int i => L2.atI xs i
  | .str s, .int i => (L2.atI s.cps.toList i).map one
  | _, _ => none
def cut {α : Type} (xs : List α) (lo hi : Option Int) : List α :=
  (xs.drop (HT.sIx xs.length 0 lo)).take (HT.sIx xs.length xs.length hi - HT.sIx xs.length 0 lo)
def slc (x : PyData) (lo hi : Option Int) : Option Val :=
  match x with
  | .list xs => some (.fr (cut xs lo hi))
  | .tuple xs => some (.d (.tuple (cut xs lo hi)))
  | _ => none
def revd : PyData → Option Val
  | .list xs => some (.fr xs.reverse)
  | .tuple xs => some (.d (.tuple xs.reverse))
  | _ => none

def bools : List PyData → Option (List Bool)
  | [] => some []
  | .bool b :: r => (bools r).map (b :: ·)
  | _ => none
/-! order of data -/
/-- x is put behind all that are not greater -/
def ins (x : PyData) : List PyData → List PyData
  | [] => [x]
  | y :: ys => if PySem.W.dataLt x y = true then x :: y :: ys else y :: ins x ys
def isort : List PyData → List PyData → List PyData
  | acc, [] => acc
  | acc, x :: xs => isort (ins x acc) xs
def allAlike (xs : List PyData) : Bool := xs.all fun x => xs.all fun y => PySem.W.alike x y
def isTupC : PyData → Bool
  | .tuple (_ :: _) => true
  | _ => false
def isPlainC : PyData → Bool
  | .int _ => true
  | .str _ => true
  | _ => false
def sortable (xs : List PyData) : Bool := xs.all isTupC || xs.all isPlainC
def sortD (xs : List PyData) : Option (List PyData) := if (allAlike xs && sortable xs && decide (PyData.depthAll xs ≤ 64)) = true then some (isort [] xs) else none
def dedup : List PyData → List PyData → List PyData
  | acc, [] => acc.reverse
  | acc, x :: xs => if acc.any (fun y => PyData.eqv y x) then dedup acc xs else dedup (x :: acc) xs
def allStr : List PyData → Bool
  | [] => true
  | .str _ :: r => allStr r
  | _ => false
def lenD : List PyData → Option Val
  | [.list xs] => some (.d (.int xs.length))
  | [.tuple xs] => some (.d (.int xs.length))
  | [.str s] => some (.d (.int s.length))
  | _ => none
def absD : List PyData → Option Val
  | [.int i] => some (.d (.int (if i < 0 then -i else i)))
  | _ => none
def intD : List PyData → Option Val
  | [.int i] => some (.d (.int i))
  | [.bool b] => some (.d (.int (if b then 1 else 0)))
  | _ => none
def listD : List PyData → Option Val
  | [x] => (items x).map .fr
  | _ => none
def tupleD : List PyData → Option Val
  | [x] => (items x).map fun xs => .d (.tuple xs)
  | _ => none
def sortedD : List PyData → Option Val
  | [.list xs] => (sortD xs).map .fr
  | _ => none
def sortedsetD : List PyData → Option Val
  | [.list xs] => if allStr xs = true ∧ xs.length < 4000 then (sortD (dedup [] xs)).map .fr else none
  | _ => none
def allD : List PyData → Option Val
  | [.list xs] => (bools xs).map fun bs => .d (.bool (bs.all id))
  | _ => none
def anyD : List PyData → Option Val
  | [.list xs] => (bools xs).map fun bs => .d (.bool (bs.any id))
  | _ => none
def min2D : List PyData → Option Val
  | [.int i, .int j] => some (.d (.int (if j < i then j else i)))
  | _ => none
def max2D : List PyData → Option Val
  | [.int i, .int j] => some (.d (.int (if i < j then j else i)))
  | _ => none
def bi : Bi → List PyData → Option Val
  | .len => lenD
  | .abs => absD
  | .int => intD
  | .list => listD
  | .tuple => tupleD
  | .sorted => sortedD
  | .sortedset => sortedsetD
  | .all => allD
  | .any => anyD
  | .min2 => min2D
  | .max2 => max2D

inductive E where
  | bad
  | var (i : Nat)
  | cst (c : PyData)
  | glo (c : PyData)
  | tup (es : List E)
  | lst (es : List E)
  | call (f : Nat) (es : List E)
  | callk (f : Nat) (es : List E)
  | callc (f : Nat) (es : List E)
  | cell (e : E)
  | op (o : Bop) (a b : E)
  | neg (a : E)
  | cmp (o : Cop) (a b : E)
  | chain (o o' : Cop) (a b c : E)
  | isN (a : E)
  | isnN (a : E)
  | band (es : List E)
  | bor (es : List E)
  | not (a : E)
  | ite (c a b : E)
  | idx (a i : E)
  | sl (a : E)
  | slL (a lo : E)
  | slU (a hi : E)
  | slLU (a lo hi : E)
  | rev (a : E)
  | bi (b : Bi) (es : List E)
  | isi (a : E) (cs : List Cls)
  | pop (i : Nat) (e : E)
  | lc (own : List Nat) (t : Tg) (k : Sk) (src : List E) (tests : List E) (elt : E)
  | lc2 (own own1 : List Nat) (t : Tg) (k : Sk) (src : List E) (tests : List E) (t1 : Tg) (k1 : Sk) (src1 : List E) (tests1 : List E) (elt : E)

abbrev Env := List (Option Val)
def getV (env : Env) (i : Nat) : Option Val := (env[i]?).getD none
def setV (env : Env) (i : Nat) (v : Val) : Env := env.set i (some v)
def wipe (env : Env) : List Nat → Env
  | [] => env
  | i :: r => (wipe env r).set i none
/-! assignment to a target -/
mutual
def asg : Tg → PyData → Env → Option Env
  | .nm i, x, env => if i < env.length then some (setV env i (.d x)) else none
  | .tp ts, x, env => match x with
    | .tuple xs => asgs ts xs env
    | _ => none
def asgs : List Tg → List PyData → Env → Option Env
  | [], [], env => some env
  | t :: ts, x :: xs, env => match asg t x env with
    | some env' => asgs ts xs env'
    | none => none
  | _, _, _ => none
end
def zipD : List PyData → List PyData → List PyData
  | x :: xs, y :: ys => .tuple [x, y] :: zipD xs ys
  | _, _ => []
def enumD : Nat → List PyData → List PyData
  | _, [] => []
  | i, x :: xs => .tuple [.int i, x] :: enumD (i + 1) xs
def rangeD (lo : Int) : Nat → List PyData
  | 0 => []
  | n + 1 => .int lo :: rangeD (lo + 1) n
/-- the cells that a walk leans on -/
def guards : List Val → List Nat
  | [] => []
  | .mr k :: r => k :: guards r
  | _ :: r => guards r
def lookAll (m : Mem) : List Val → Option (List PyData)
  | [] => some []
  | v :: r => match rd m v, lookAll m r with
    | some x, some xs => some (x :: xs)
    | _, _ => none
def walk (k : Sk) (xs : List PyData) : Option (List PyData) :=
  match k, xs with
  | .seq, [x] => items x
  | .range, [.int n] => if n ≤ 1000000 ∧ -1000000 ≤ n then some (rangeD 0 n.toNat) else none
  | .range2, [.int a, .int b] => if a ≤ 1000000 ∧ -1000000 ≤ a ∧ b ≤ 1000000 ∧ -1000000 ≤ b then some (rangeD a (b - a).toNat) else none
  | .zip, [.list xs, .list ys] => some (zipD xs ys)
  | .zip, [.tuple xs, .tuple ys] => some (zipD xs ys)
  | .enum, [.list xs] => some (enumD 0 xs)
  | _, _ => none
/-! equality of data -/
mutual
def beqD : PyData → PyData → Bool
  | .none, .none => true
  | .bool a, .bool b => a == b
  | .int i, .int j => i == j
  | .str x, .str y => x == y
  | .list xs, .list ys => beqDs xs ys
  | .tuple xs, .tuple ys => beqDs xs ys
  | .dict xs, .dict ys => beqPs xs ys
  | _, _ => false
def beqDs : List PyData → List PyData → Bool
  | [], [] => true
  | x :: xs, y :: ys => beqD x y && beqDs xs ys
  | _, _ => false
def beqPs : List (PyData × PyData) → List (PyData × PyData) → Bool
  | [], [] => true
  | (x, u) :: xs, (y, v) :: ys => beqD x y && beqD u v && beqPs xs ys
  | _, _ => false
end
/-- the cells that are walked stay as they were -/
def same : List Nat → Mem → Mem → Bool
  | [], _, _ => true
  | k :: r, m, m' => (match m[k]?, m'[k]? with
      | some c, some c' => beqDs c.xs c'.xs
      | _, _ => false) && same r m m'

/-! expressions -/
abbrev Call := Nat → List Val → Mem → Res Val
abbrev EV := Env → Mem → Res Val
abbrev ET := Env → Mem → Res Bool
/-- an expression as a value, as a test -/
structure P where
  v : EV
  t : ET
def rdR (m : Mem) (v : Val) : Res PyData := optR (rd m v) m
def truR (v : Val) (m : Mem) : Res Bool := (rdR m v).bind fun x m1 => optR (truth x) m1
def ofV (v : EV) : P := ⟨v, fun env m => (v env m).bind truR⟩
def boolR (b : Bool) (m : Mem) : Res Val := .ok (.d (.bool b)) m

/-- the items of a container -/
def cItems : List P → Env → Mem → Res (List PyData)
  | [], _, m => .ok [] m
  | e :: es, env, m => (e.v env m).bind fun v m1 => (frz v m1).bind fun x m2 => (cItems es env m2).bind fun xs m3 => .ok (x :: xs) m3
/-- arguments -/
def cArgs : List P → Env → Mem → Res (List Val)
  | [], _, m => .ok [] m
  | e :: es, env, m => (e.v env m).bind fun v m1 => (cArgs es env m1).bind fun vs m2 => .ok (v.nf :: vs) m2
def cTup (es : List P) : EV := fun env m => (cItems es env m).bind fun xs m1 => .ok (.d (.tuple xs)) m1
def cLst (es : List P) : EV := fun env m => (cItems es env m).bind fun xs m1 => .ok (.fr xs) m1
def cCall (call : Call) (f : Nat) (es : List P) : EV := fun env m => (cArgs es env m).bind fun vs m1 => call f vs m1
/-- behind a def: its own cells go -/
def leave (n : Nat) (v : Val) (m : Mem) : Res Val := match v with
  | .mr k => if k < n then .ok (.mr k) (m.take n) else (match m[k]? with
    | some c => .ok (if c.fz = true then .d (.list c.xs) else .fr c.xs) (m.take n)
    | none => .fail)
  | v => .ok v (m.take n)
def cCallC (call : Call) (f : Nat) (es : List P) : EV := fun env m => (cArgs es env m).bind fun vs m1 => (call f vs m1).bind fun v m2 => leave m.length v m2
def cCell (e : P) : EV := fun env m => (e.v env m).bind mkCell
/-- one operand, by what it reads -/
def c1 (a : P) (f : PyData → Mem → Res Val) : EV := fun env m => (a.v env m).bind fun va m1 => (rdR m1 va.nf).bind f
/-- two operands, read when both are there -/
def c2 (a b : P) (f : PyData → PyData → Mem → Res Val) : EV := fun env m => (a.v env m).bind fun va m1 => (b.v env m1).bind fun vb m2 =>
  (rdR m2 va.nf).bind fun x m3 => (rdR m3 vb.nf).bind fun y m4 => f x y m4
def intR (x : PyData) (m : Mem) : Res Int := match x with
  | .int i => .ok i m
  | _ => .fail
def cSl3 (a b c : P) : EV := fun env m => (a.v env m).bind fun va m1 => (b.v env m1).bind fun vb m2 => (rdR m2 vb.nf).bind fun y m3 => (intR y m3).bind fun l m4 =>
  (c.v env m4).bind fun vc m5 => (rdR m5 va.nf).bind fun x m6 => (rdR m6 vc.nf).bind fun z m7 => (intR z m7).bind fun h m8 => optR (slc x (some l) (some h)) m8
def cmpR (o : Cop) (x y : PyData) (m : Mem) : Res Val := (optR (cmp o x y) m).bind boolR
def cChain (o o' : Cop) (a b c : P) : EV := fun env m => (a.v env m).bind fun va m1 => (b.v env m1).bind fun vb m2 =>
  (rdR m2 va.nf).bind fun x m3 => (rdR m3 vb.nf).bind fun y m4 => (optR (cmp o x y) m4).bind fun t m5 =>
    if t = true then (c.v env m5).bind fun vc m6 => (rdR m6 vb.nf).bind fun y' m7 => (rdR m7 vc.nf).bind fun z m8 => cmpR o' y' z m8
    else boolR false m5
def cAnd : List P → EV
  | [], _, _ => .fail
  | [e], env, m => e.v env m
  | e :: e' :: es, env, m => (e.v env m).bind fun v m1 => (truR v m1).bind fun t m2 => if t = true then cAnd (e' :: es) env m2 else .ok v m2
def cOr : List P → EV
  | [], _, _ => .fail
  | [e], env, m => e.v env m
  | e :: e' :: es, env, m => (e.v env m).bind fun v m1 => (truR v m1).bind fun t m2 => if t = true then .ok v m2 else cOr (e' :: es) env m2
def tAnd : List P → ET
  | [], _, _ => .fail
  | [e], env, m => e.t env m
  | e :: e' :: es, env, m => (e.t env m).bind fun t m1 => if t = true then tAnd (e' :: es) env m1 else .ok false m1
def tOr : List P → ET
  | [], _, _ => .fail
  | [e], env, m => e.t env m
  | e :: e' :: es, env, m => (e.t env m).bind fun t m1 => if t = true then .ok true m1 else tOr (e' :: es) env m1
/-- all tests of a clause -/
def tAll : List P → ET
  | [], _, m => .ok true m
  | e :: es, env, m => (e.t env m).bind fun t m1 => if t = true then tAll es env m1 else .ok false m1
def cPop (i : Nat) (e : P) : EV := fun env m => match getV env i with
  | some (.mr k) => (e.v env m).bind fun ve m1 => (rdR m1 ve.nf).bind fun j m2 => match j, m2[k]? with
    | .int j, some c => if c.fz = false ∧ 0 ≤ j ∧ j < c.xs.length then
        match c.xs[j.toNat]? with
        | some y => .ok (.d y) (m2.set k ⟨false, c.xs.eraseIdx j.toNat⟩)
        | none => .fail
      else .fail
    | _, _ => .fail
  | _ => .fail
/-- a list comprehension over its items -/
def lcLoop (t : Tg) (tests : List P) (elt : P) (gs : List Nat) (env : Env) : List PyData → Mem → Res (List PyData)
  | [], m => .ok [] m
  | x :: xs, m => match asg t x env with
    | none => .fail
    | some env' => (tAll tests env' m).bind fun b m1 =>
      if b = true then (elt.v env' m1).bind fun v m2 => (frz v m2).bind fun y m3 =>
        if same gs m m3 = true then (lcLoop t tests elt gs env xs m3).bind fun ys m4 => .ok (y :: ys) m4 else .fail
      else if same gs m m1 = true then lcLoop t tests elt gs env xs m1 else .fail
/-- what is walked: its items, the cells that it leans on -/
def srcR (k : Sk) (src : List P) (env : Env) (m : Mem) : Res (List PyData × List Nat) :=
  (cArgs src env m).bind fun vs m1 => (optR (lookAll m1 vs) m1).bind fun xs m2 => (optR (walk k xs) m2).bind fun is m3 => .ok (is, guards vs) m3
def cLc (own : List Nat) (t : Tg) (k : Sk) (src tests : List P) (elt : P) : EV := fun env m =>
  (srcR k src env m).bind fun p m1 => (lcLoop t tests elt p.2 (wipe env own) p.1 m1).bind fun ys m2 => .ok (.fr ys) m2
def cBi (b : Bi) (es : List P) : EV := fun env m => (cArgs es env m).bind fun vs m1 => (optR (lookAll m1 vs) m1).bind fun xs m2 => optR (bi b xs) m2
section
variable (call : Call)
mutual
def sem : E → P
  | .bad => ofV fun _ _ => .fail
  | .var i => ofV fun env m => optR (getV env i) m
  | .cst c => ofV fun _ m => .ok (.d c) m
  | .glo c => ofV fun _ m => .ok (.d c) m
  | .tup es => ofV (cTup (sems es))
  | .lst es => ofV (cLst (sems es))
  | .call f es => ofV (cCall call f (sems es))
  | .callk f es => ofV (cCall call f (sems es))
  | .callc f es => ofV (cCallC call f (sems es))
  | .cell e => ⟨cCell (sem e), fun _ _ => .fail⟩
  | .op o a b => ofV (c2 (sem a) (sem b) fun x y m => optR (bop o x y) m)
  | .neg a => ofV (c1 (sem a) fun x m => match x with
      | .int i => .ok (.d (.int (-i))) m
      | _ => .fail)
  | .cmp o a b => ofV (c2 (sem a) (sem b) (cmpR o))
  | .chain o o' a b c => ofV (cChain o o' (sem a) (sem b) (sem c))
  | .isN a => ofV (c1 (sem a) fun x m => boolR (isNone x) m)
  | .isnN a => ofV (c1 (sem a) fun x m => boolR (!isNone x) m)
  | .band es => ⟨cAnd (sems es), tAnd (sems es)⟩
  | .bor es => ⟨cOr (sems es), tOr (sems es)⟩
  | .not a => ⟨fun env m => ((sem a).v env m).bind fun v m1 => (truR v m1).bind fun t m2 => boolR (!t) m2, fun env m => ((sem a).t env m).bind fun t m1 => .ok (!t) m1⟩
  | .ite c a b => ⟨fun env m => ((sem c).t env m).bind fun t m1 => if t = true then (sem a).v env m1 else (sem b).v env m1,
      fun env m => ((sem c).t env m).bind fun t m1 => if t = true then (sem a).t env m1 else (sem b).t env m1⟩
  | .idx a i => ofV (c2 (sem a) (sem i) fun x y m => (optR (idx x y) m).bind fun z m1 => .ok (.d z) m1)
  | .sl a => ofV (c1 (sem a) fun x m => optR (slc x none none) m)
  | .slL a lo => ofV (c2 (sem a) (sem lo) fun x l m => match l with
      | .int l => optR (slc x (some l) none) m
      | _ => .fail)
  | .slU a hi => ofV (c2 (sem a) (sem hi) fun x h m => match h with
      | .int h => optR (slc x none (some h)) m
      | _ => .fail)
  | .slLU a lo hi => ofV (cSl3 (sem a) (sem lo) (sem hi))
  | .rev a => ofV (c1 (sem a) fun x m => optR (revd x) m)
  | .bi b es => ofV (cBi b (sems es))
  | .isi a cs => ofV (c1 (sem a) fun x m => boolR (cs.any (isi x)) m)
  | .pop i e => ofV (cPop i (sem e))
  | .lc own t k src tests elt => ofV (cLc own t k (sems src) (sems tests) (sem elt))
  | .lc2 _ _ _ _ _ _ _ _ _ _ _ => ofV fun _ _ => .fail
def sems : List E → List P
  | [] => []
  | e :: es => sem e :: sems es
end
end

/-! statements -/
inductive S where
  | bad
  | expr (e : E)
  | set (i : Nat) (cell : Bool) (e : E)
  | setT (t : Tg) (e : E)
  | par (is : List (Nat × Bool)) (es : List E)
  | app (i : Nat) (e : E)
  | ext (i : Nat) (e : E)
  | put (i : Nat) (j e : E)
  | ret (e : E)
  | retN
  | iff (c : E) (a b : List S)
  | for (t : Tg) (k : Sk) (src : List E) (body : List S)
  | while (c : E) (body : List S)
  | pass
  | brk
  | cnt
inductive Flow where
  | next (env : Env) | ret (v : Val) | brk (env : Env) | cnt (env : Env)
abbrev EX := Env → Mem → Res Flow
def xNext : EX := fun env m => .ok (.next env) m
def xSeq (a b : EX) : EX := fun env m => (a env m).bind fun f m1 => match f with
  | .next env' => b env' m1
  | f => .ok f m1
/-- the value that a name gets -/
def stored (cell : Bool) (v : Val) (m : Mem) : Res Val := if cell = true then mkCell v m else .ok v.nf m
def setIn (env : Env) (i : Nat) (v : Val) (m : Mem) : Res Flow := if i < env.length then .ok (.next (setV env i v)) m else .fail
def xSet (i : Nat) (cell : Bool) (e : P) : EX := fun env m => (e.v env m).bind fun v m1 => (stored cell v m1).bind fun v' m2 => setIn env i v' m2
def xSetT (t : Tg) (e : P) : EX := fun env m => (e.v env m).bind fun v m1 => (rdR m1 v.nf).bind fun x m2 => match asg t x env with
  | some env' => .ok (.next env') m2
  | none => .fail
def parV : List (Nat × Bool) → List P → Env → Mem → Res (List Val)
  | [], [], _, m => .ok [] m
  | (_, c) :: is, e :: es, env, m => (e.v env m).bind fun v m1 => (stored c v m1).bind fun v' m2 => (parV is es env m2).bind fun vs m3 => .ok (v' :: vs) m3
  | _, _, _, _ => .fail
def setAll : List (Nat × Bool) → List Val → Env → Mem → Res Flow
  | [], [], env, m => .ok (.next env) m
  | (i, _) :: is, v :: vs, env, m => if i < env.length then setAll is vs (setV env i v) m else .fail
  | _, _, _, _ => .fail
def xPar (is : List (Nat × Bool)) (es : List P) : EX := fun env m => (parV is es env m).bind fun vs m1 => setAll is vs env m1
/-- a change of the cell of a name -/
def upCell (env : Env) (i : Nat) (f : List PyData → Option (List PyData)) (m : Mem) : Res Flow := match getV env i with
  | some (.mr k) => match m[k]? with
    | some c => if c.fz = false then (match f c.xs with
        | some ys => .ok (.next env) (m.set k ⟨false, ys⟩)
        | none => .fail) else .fail
    | none => .fail
  | _ => .fail
/-- the name holds a cell -/
def onCell (env : Env) (i : Nat) (r : Res Flow) : Res Flow := match getV env i with
  | some (.mr _) => r
  | _ => .fail
def xApp (i : Nat) (e : P) : EX := fun env m => onCell env i ((e.v env m).bind fun v m1 => (frz v m1).bind fun x m2 => upCell env i (fun xs => if xs.length < lim then some (xs ++ [x]) else none) m2)
def extD (x : PyData) (xs : List PyData) : Option (List PyData) := match x with
  | .list ys => if xs.length + ys.length ≤ lim then some (xs ++ ys) else none
  | _ => none
def xExt (i : Nat) (e : P) : EX := fun env m => onCell env i ((e.v env m).bind fun v m1 => (rdR m1 v.nf).bind fun x m2 => upCell env i (extD x) m2)
def putD (y x : PyData) (xs : List PyData) : Option (List PyData) := match y with
  | .int n => (L2.ixN xs.length n).map fun k => xs.set k x
  | _ => none
def xPut (i : Nat) (j e : P) : EX := fun env m => (e.v env m).bind fun v m1 => (frz v m1).bind fun x m2 => onCell env i ((j.v env m2).bind fun vj m3 => (rdR m3 vj.nf).bind fun y m4 => upCell env i (putD y x) m4)
def xRet (e : P) : EX := fun env m => (e.v env m).bind fun v m1 => .ok (.ret v) m1
def xIf (c : P) (a b : EX) : EX := fun env m => (c.t env m).bind fun t m1 => if t = true then a env m1 else b env m1
def forLoop (t : Tg) (body : EX) (gs : List Nat) : List PyData → EX
  | [], env, m => .ok (.next env) m
  | x :: xs, env, m => match asg t x env with
    | none => .fail
    | some env' => (body env' m).bind fun f m1 => match f with
      | .next e2 => if same gs m m1 = true then forLoop t body gs xs e2 m1 else .fail
      | .cnt e2 => if same gs m m1 = true then forLoop t body gs xs e2 m1 else .fail
      | .brk e2 => .ok (.next e2) m1
      | .ret v => .ok (.ret v) m1
def xFor (t : Tg) (k : Sk) (src : List P) (body : EX) : EX := fun env m => (srcR k src env m).bind fun p m1 => forLoop t body p.2 p.1 env m1
def whileLoop (c : P) (body : EX) : Nat → EX
  | 0, _, _ => .fail
  | n + 1, env, m => (c.t env m).bind fun b m1 => if b = true then (body env m1).bind fun f m2 => (match f with
      | .next e2 => whileLoop c body n e2 m2
      | .cnt e2 => whileLoop c body n e2 m2
      | .brk e2 => .ok (.next e2) m2
      | .ret v => .ok (.ret v) m2)
    else .ok (.next env) m1
section
variable (call : Call) (wf : Nat)
mutual
def exS : S → EX
  | .bad => fun _ _ => .fail
  | .expr e => fun env m => ((sem call e).v env m).bind fun _ m1 => .ok (.next env) m1
  | .set i c e => xSet i c (sem call e)
  | .setT t e => xSetT t (sem call e)
  | .par is es => xPar is (sems call es)
  | .app i e => xApp i (sem call e)
  | .ext i e => xExt i (sem call e)
  | .put i j e => xPut i (sem call j) (sem call e)
  | .ret e => xRet (sem call e)
  | .retN => fun _ m => .ok (.ret (.d .none)) m
  | .iff c a b => xIf (sem call c) (exB a) (exB b)
  | .for t k src body => xFor t k (sems call src) (exB body)
  | .while c body => whileLoop (sem call c) (exB body) wf
  | .pass => xNext
  | .brk => fun env m => .ok (.brk env) m
  | .cnt => fun env m => .ok (.cnt env) m
def exB : List S → EX
  | [] => xNext
  | s :: r => xSeq (exS s) (exB r)
end
end
/-- a def: how many names it has, how many of them are parameters, its body -/
structure Fn where
  n : Nat
  ps : Nat
  body : List S
def run (T : List Fn) (wf : Nat) : Nat → Call
  | 0, _, _, _ => .fail
  | n + 1, f, vs, m => match T[f]? with
    | none => .fail
    | some F => if vs.length = F.ps ∧ F.ps ≤ F.n then
        (exB (run T wf n) wf F.body (vs.map some ++ List.replicate (F.n - F.ps) none) m).bind fun fl m1 => (match fl with
          | .ret v => leave m.length v m1
          | .next _ => .ok (.d .none) (m1.take m.length)
          | _ => .fail)
      else .fail
end Ra


set_option Elab.async false
set_option linter.all false
set_option autoImplicit false
set_option maxRecDepth 100000
/-! the evaluator's data in the layer's heap -/
namespace Ra
open PySem PySem.Spec PyProof.Rows L2

/-- a list that is fixed: in F, or locked -/
def Rl (F : Addr → Prop) (H : Hp) (a : Addr) (xs : List V) : Prop := (F a ∧ H a = some (.lst xs)) ∨ ∃ o, H a = some (.frz o (.lst xs))
theorem Rl.rd {F : Addr → Prop} {H : Hp} {a : Addr} {xs : List V} (h : Rl F H a xs) : Rd H a (.lst xs) := by
  rcases h with ⟨_, h⟩ | h
  · exact .inl h
  · exact .inr h
mutual
inductive Rp (K : PySem.W.Frag) (F : Addr → Prop) (H : Hp) : V → PyData → Prop
  | non : Rp K F H .non .none
  | bl (b : Bool) : Rp K F H (.bl b) (.bool b)
  | int (i : Int) : Rp K F H (.int i) (.int i)
  | str (x : Str) : sOk x = true → Rp K F H (.str x) (.str x)
  | lst {a : Addr} {xs : List V} {ds : List PyData} : Rl F H a xs → RpAll K F H xs ds → Rp K F H (.ref a) (.list ds)
  | tup {a : Addr} {xs : List V} {ds : List PyData} : SqT K H a xs → RpAll K F H xs ds → Rp K F H (.ref a) (.tuple ds)
inductive RpAll (K : PySem.W.Frag) (F : Addr → Prop) (H : Hp) : List V → List PyData → Prop
  | nil : RpAll K F H [] []
  | cons {v : V} {vs : List V} {d : PyData} {ds : List PyData} : Rp K F H v d → RpAll K F H vs ds → RpAll K F H (v :: vs) (d :: ds)
end
/-- what is fixed, where the cells stand -/
structure G where
  F : Addr → Prop
  ad : List Addr
  /-- what others hold: left alone -/
  pr : Addr → Prop
structure Ext (g : G) (H : Hp) (g' : G) (H' : Hp) : Prop where
  sub : ∀ a, g.F a → g'.F a
  fix : ∀ a, g.F a → H' a = H a
  tup : ∀ a xs, H a = some (.tup xs) → H' a = some (.tup xs)
  frz : ∀ a o u, H a = some (.frz o u) → H' a = some (.frz o u)
  ads : ∃ more, g'.ad = g.ad ++ more
  pre : g'.pr = g.pr
  keep : ∀ a, g.pr a → H' a = H a
structure SimM (K : PySem.W.Frag) (m : Mem) (g : G) (H : Hp) : Prop where
  fs : ∀ a, g.F a → ∃ xs, H a = some (.lst xs)
  len : g.ad.length = m.length
  nd : g.ad.Nodup
  cell : ∀ (k : Nat) (c : Cell) (a : Addr), m[k]? = some c → g.ad[k]? = some a → ∃ vs, H a = some (.lst vs) ∧ RpAll K g.F H vs c.xs ∧ (c.fz = true → g.F a) ∧ (c.fz = false → ¬ g.F a)
  sz : ∀ a xs, (H a = some (.lst xs) ∨ H a = some (.tup xs) ∨ (∃ o, H a = some (.frz o (.lst xs))) ∨ ∃ o, H a = some (.frz o (.tup xs))) → xs.length ≤ sizeLine
  prs : ∀ a, g.pr a → ∃ o, H a = some o
  prF : ∀ a, g.pr a → ¬ g.F a
  prA : ∀ a, g.pr a → a ∉ g.ad
def RpV (K : PySem.W.Frag) (g : G) (H : Hp) (x : V) : Val → Prop
  | .d d => Rp K g.F H x d
  | .fr xs => ∃ a vs, x = .ref a ∧ H a = some (.lst vs) ∧ RpAll K g.F H vs xs ∧ ¬ g.F a ∧ a ∉ g.ad ∧ ¬ g.pr a
  | .mr k => ∃ a, x = .ref a ∧ g.ad[k]? = some a
/-- readable now -/
def Rr (K : PySem.W.Frag) (F : Addr → Prop) (H : Hp) (x : V) : PyData → Prop
  | .list ds => ∃ a xs, x = .ref a ∧ Rd H a (.lst xs) ∧ RpAll K F H xs ds
  | d => Rp K F H x d

section
variable {K : PySem.W.Frag} {F F' : Addr → Prop} {H H' H2 : Hp} {g g' g2 : G} {m m' : Mem} {x : V} {d : PyData} {v : Val}
theorem Ext.refl (g : G) (H : Hp) : Ext g H g H := ⟨fun _ h => h, fun _ _ => rfl, fun _ _ h => h, fun _ _ _ h => h, ⟨[], by simp⟩, rfl, fun _ _ => rfl⟩
theorem Ext.trans (a : Ext g H g' H') (b : Ext g' H' g2 H2) : Ext g H g2 H2 :=
  ⟨fun c h => b.sub c (a.sub c h), fun c h => (b.fix c (a.sub c h)).trans (a.fix c h), fun c xs h => b.tup c xs (a.tup c xs h), fun c o u h => b.frz c o u (a.frz c o u h), by
    obtain ⟨p, e⟩ := a.ads
    obtain ⟨q, e'⟩ := b.ads
    exact ⟨p ++ q, by rw [e', e, List.append_assoc]⟩, b.pre.trans a.pre, fun c h => (b.keep c (by rw [a.pre]; exact h)).trans (a.keep c h)⟩
theorem Ext.at (e : Ext g H g' H') {k : Nat} {a : Addr} (h : g.ad[k]? = some a) : g'.ad[k]? = some a := by
  obtain ⟨p, q⟩ := e.ads
  rw [q, List.getElem?_append_left (by
    have := (List.getElem?_eq_some_iff.mp h).1
    exact this)]
  exact h
theorem SqT.ext {a : Addr} {xs : List V} (e : Ext g H g' H') (h : SqT K H a xs) : SqT K H' a xs := by
  rcases h with (h | ⟨o, h⟩) | h
  · exact .inl (.inl (e.tup _ _ h))
  · exact .inl (.inr ⟨o, e.frz _ _ _ h⟩)
  · exact .inr h
theorem Rl.ext {a : Addr} {xs : List V} (e : Ext g H g' H') (h : Rl g.F H a xs) : Rl g'.F H' a xs := by
  rcases h with ⟨f, h⟩ | ⟨o, h⟩
  · exact .inl ⟨e.sub _ f, (e.fix _ f).trans h⟩
  · exact .inr ⟨o, e.frz _ _ _ h⟩
mutual
theorem Rp.ext (e : Ext g H g' H') : ∀ (d : PyData) {x : V}, Rp K g.F H x d → Rp K g'.F H' x d
  | .none, _, h => by cases h; exact .non
  | .bool b, _, h => by cases h; exact .bl b
  | .int i, _, h => by cases h; exact .int i
  | .str s, _, h => by
    cases h with
    | str _ h => exact .str s h
  | .list ds, _, h => by
    cases h with
    | lst a b => exact .lst (Rl.ext e a) (RpAll.ext e ds b)
  | .tuple ds, _, h => by
    cases h with
    | tup a b => exact .tup (SqT.ext e a) (RpAll.ext e ds b)
  | .dict _, _, h => by cases h
theorem RpAll.ext (e : Ext g H g' H') : ∀ (ds : List PyData) {xs : List V}, RpAll K g.F H xs ds → RpAll K g'.F H' xs ds
  | [], _, h => by cases h; exact .nil
  | d :: ds, _, h => by
    cases h with
    | cons a b => exact .cons (Rp.ext e d a) (RpAll.ext e ds b)
end
theorem RpV.ext (e : Ext g H g' H') (hf : ∀ xs, v ≠ .fr xs) (h : RpV K g H x v) : RpV K g' H' x v := by
  cases v with
  | d d => exact Rp.ext e d h
  | fr xs => exact absurd rfl (hf xs)
  | mr k =>
    obtain ⟨a, rfl, q⟩ := h
    exact ⟨a, rfl, e.at q⟩
theorem Rp.rr (h : Rp K F H x d) : Rr K F H x d := by
  cases h with
  | lst a b => exact ⟨_, _, rfl, a.rd, b⟩
  | non => exact .non
  | bl b => exact .bl b
  | int i => exact .int i
  | str i h => exact .str i h
  | tup a b => exact .tup a b
theorem RpAll.length : ∀ {xs : List V} {ds : List PyData}, RpAll K F H xs ds → xs.length = ds.length
  | _, _, .nil => rfl
  | _, _, .cons _ t => by rw [List.length_cons, List.length_cons, RpAll.length t]
theorem RpAll.get : ∀ {xs : List V} {ds : List PyData} {i : Nat} {d : PyData}, RpAll K F H xs ds → ds[i]? = some d → ∃ x, xs[i]? = some x ∧ Rp K F H x d
  | _, _, _, _, .nil, e => by simp at e
  | _, _, 0, _, .cons r _, e => by
    simp at e; subst e
    exact ⟨_, rfl, r⟩
  | _, _, i + 1, d, .cons _ t, e => by
    obtain ⟨u, h1, h2⟩ := RpAll.get (i := i) (d := d) t (by simpa using e)
    exact ⟨u, by simpa using h1, h2⟩
theorem RpAll.get' : ∀ {xs : List V} {ds : List PyData} {i : Nat} {x : V}, RpAll K F H xs ds → xs[i]? = some x → ∃ d, ds[i]? = some d ∧ Rp K F H x d
  | _, _, _, _, .nil, e => by simp at e
  | _, _, 0, _, .cons r _, e => by
    simp at e; subst e
    exact ⟨_, rfl, r⟩
  | _, _, i + 1, d, .cons _ t, e => by
    obtain ⟨u, h1, h2⟩ := RpAll.get' (i := i) t (by simpa using e)
    exact ⟨u, by simpa using h1, h2⟩
theorem RpAll.append : ∀ {xs ys : List V} {ds es : List PyData}, RpAll K F H xs ds → RpAll K F H ys es → RpAll K F H (xs ++ ys) (ds ++ es)
  | _, _, _, _, .nil, s => s
  | _, _, _, _, .cons r t, s => .cons r (RpAll.append t s)
theorem RpAll.drop : ∀ {xs : List V} {ds : List PyData} (n : Nat), RpAll K F H xs ds → RpAll K F H (xs.drop n) (ds.drop n)
  | _, _, 0, r => r
  | _, _, _ + 1, .nil => .nil
  | _, _, n + 1, .cons _ t => RpAll.drop n t
theorem RpAll.take : ∀ {xs : List V} {ds : List PyData} (n : Nat), RpAll K F H xs ds → RpAll K F H (xs.take n) (ds.take n)
  | _, _, 0, r => .nil
  | _, _, _ + 1, .nil => .nil
  | _, _, n + 1, .cons a t => .cons a (RpAll.take n t)
theorem RpAll.rev {xs : List V} {ds : List PyData} (h : RpAll K F H xs ds) : RpAll K F H xs.reverse ds.reverse := by
  have aux : ∀ {xs ys : List V} {ds es : List PyData}, RpAll K F H xs ds → RpAll K F H ys es → RpAll K F H (xs.reverseAux ys) (ds.reverseAux es) := by
    intro xs
    induction xs with
    | nil => intro ys ds es h s; cases h; exact s
    | cons x r ih =>
      intro ys ds es h s
      cases h with
      | cons a t =>
        have z := ih t (RpAll.cons a s)
        exact z
  exact aux h .nil
theorem RpAll.set : ∀ {xs : List V} {ds : List PyData} {x : V} {d : PyData} (n : Nat), RpAll K F H xs ds → Rp K F H x d → RpAll K F H (xs.set n x) (ds.set n d)
  | _, _, _, _, _, .nil, _ => .nil
  | _, _, _, _, 0, .cons _ t, r => .cons r t
  | _, _, _, _, n + 1, .cons a t, r => .cons a (RpAll.set n t r)
theorem RpAll.erase : ∀ {xs : List V} {ds : List PyData} (n : Nat), RpAll K F H xs ds → RpAll K F H (xs.eraseIdx n) (ds.eraseIdx n)
  | _, _, _, .nil => .nil
  | _, _, 0, .cons _ t => t
  | _, _, n + 1, .cons a t => .cons a (RpAll.erase n t)
theorem RpAll.rep {xs : List V} {ds : List PyData} (h : RpAll K F H xs ds) : ∀ n, RpAll K F H (List.replicate n xs).flatten (List.replicate n ds).flatten
  | 0 => .nil
  | n + 1 => by
    rw [List.replicate_succ, List.flatten_cons, List.replicate_succ, List.flatten_cons]
    exact h.append (RpAll.rep h n)
/-- what may be read of a cell or of data -/
theorem SimM.read (S : SimM K m g H) (hf : ∀ xs, v ≠ .fr xs) (h : RpV K g H x v) (e : rd m v = some d) : Rr K g.F H x d := by
  cases v with
  | d y =>
    have e' : y = d := Option.some.inj e
    subst e'
    exact Rp.rr h
  | fr xs => exact absurd rfl (hf xs)
  | mr k =>
    obtain ⟨a, rfl, q⟩ := h
    cases hm : m[k]? with
    | none => simp [rd, hm] at e
    | some c =>
      simp only [rd, hm, Option.map_some, Option.some.injEq] at e
      subst e
      obtain ⟨vs, h1, h2, _⟩ := S.cell k c a hm q
      exact ⟨a, vs, rfl, .inl h1, h2⟩
theorem nf_ne (v : Val) : ∀ xs, v.nf ≠ .fr xs := by
  intro xs; cases v <;> simp [Val.nf]
theorem nf_of (h : ∀ xs, v ≠ .fr xs) : v.nf = v := by
  cases v with
  | fr xs => exact absurd rfl (h xs)
  | d _ => rfl
  | mr _ => rfl
/-- a new list is fixed -/
theorem SimM.fix (S : SimM K m g H) {a : Addr} {vs : List V} (ha : H a = some (.lst vs)) (hn : a ∉ g.ad) (hp : ¬ g.pr a) :
    SimM K m ⟨fun b => b = a ∨ g.F b, g.ad, g.pr⟩ H ∧ Ext g H ⟨fun b => b = a ∨ g.F b, g.ad, g.pr⟩ H := by
  have e : Ext g H ⟨fun b => b = a ∨ g.F b, g.ad, g.pr⟩ H := ⟨fun _ h => .inr h, fun _ _ => rfl, fun _ _ h => h, fun _ _ _ h => h, ⟨[], by simp⟩, rfl, fun _ _ => rfl⟩
  refine ⟨⟨fun b h => ?_, S.len, S.nd, fun k c b h1 h2 => ?_, S.sz, S.prs, fun b h w => ?_, S.prA⟩, e⟩
  · rcases h with rfl | h
    · exact ⟨_, ha⟩
    · exact S.fs b h
  · obtain ⟨ws, p, q, r, t⟩ := S.cell k c b h1 h2
    refine ⟨ws, p, RpAll.ext e _ q, fun z => .inr (r z), fun z w => ?_⟩
    rcases w with rfl | w
    · exact hn (List.mem_of_getElem? h2)
    · exact t z w
  · rcases w with rfl | w
    · exact hp h
    · exact S.prF b h w
/-- any value, held from now on -/
theorem SimM.hold (S : SimM K m g H) (h : RpV K g H x v) : ∃ g', SimM K m g' H ∧ Ext g H g' H ∧ RpV K g' H x v.nf := by
  cases v with
  | d y => exact ⟨g, S, Ext.refl g H, h⟩
  | mr k => exact ⟨g, S, Ext.refl g H, h⟩
  | fr xs =>
    obtain ⟨a, vs, rfl, h1, h2, h3, h4, h5⟩ := h
    obtain ⟨S', e⟩ := S.fix h1 h4 h5
    exact ⟨_, S', e, Rp.lst (.inl ⟨.inl rfl, h1⟩) (RpAll.ext e _ h2)⟩
/-- a cell is fixed -/
theorem SimM.fixCell (S : SimM K m g H) {k : Nat} {c : Cell} {a : Addr} (hm : m[k]? = some c) (ha : g.ad[k]? = some a) :
    SimM K (m.set k { c with fz := true }) ⟨fun b => b = a ∨ g.F b, g.ad, g.pr⟩ H ∧ Ext g H ⟨fun b => b = a ∨ g.F b, g.ad, g.pr⟩ H ∧ Rp K (fun b => b = a ∨ g.F b) H (.ref a) (.list c.xs) := by
  have e : Ext g H ⟨fun b => b = a ∨ g.F b, g.ad, g.pr⟩ H := ⟨fun _ h => .inr h, fun _ _ => rfl, fun _ _ h => h, fun _ _ _ h => h, ⟨[], by simp⟩, rfl, fun _ _ => rfl⟩
  obtain ⟨vs, p, q, r, t⟩ := S.cell k c a hm ha
  have hk : k < m.length := (List.getElem?_eq_some_iff.mp hm).1
  refine ⟨⟨fun b h => ?_, by rw [List.length_set]; exact S.len, S.nd, fun j c' b h1 h2 => ?_, S.sz, S.prs, fun b h w => ?_, S.prA⟩, e, .lst (.inl ⟨.inl rfl, p⟩) (RpAll.ext e _ q)⟩
  · rcases h with rfl | h
    · exact ⟨_, p⟩
    · exact S.fs b h
  · by_cases hj : j = k
    · subst hj
      rw [List.getElem?_set_self hk] at h1
      cases h1
      rw [ha] at h2
      cases h2
      exact ⟨vs, p, RpAll.ext e _ q, fun _ => .inl rfl, fun z => by simp at z⟩
    · rw [List.getElem?_set_ne (Ne.symm hj)] at h1
      obtain ⟨ws, p', q', r', t'⟩ := S.cell j c' b h1 h2
      refine ⟨ws, p', RpAll.ext e _ q', fun z => .inr (r' z), fun z w => ?_⟩
      rcases w with rfl | w
      · have h3 : g.ad[j]? = g.ad[k]? := h2.trans ha.symm
        have hlt : j < g.ad.length := (List.getElem?_eq_some_iff.mp h2).1
        exact hj ((List.getElem?_inj hlt S.nd).mp h3)
      · exact t' z w
  · rcases w with rfl | w
    · exact S.prA b h (List.mem_of_getElem? ha)
    · exact S.prF b h w
/-- .. as what stands in a container -/
theorem SimM.frz (S : SimM K m g H) (h : RpV K g H x v) {m' : Mem} (e : frz v m = .ok d m') : ∃ g', SimM K m' g' H ∧ Ext g H g' H ∧ Rp K g'.F H x d := by
  cases v with
  | d y =>
    simp only [Ra.frz, Res.ok.injEq] at e
    obtain ⟨rfl, rfl⟩ := e
    exact ⟨g, S, Ext.refl g H, h⟩
  | fr xs =>
    simp only [Ra.frz, Res.ok.injEq] at e
    obtain ⟨rfl, rfl⟩ := e
    obtain ⟨g', S', e', h'⟩ := S.hold h
    exact ⟨g', S', e', h'⟩
  | mr k =>
    obtain ⟨a, rfl, q⟩ := h
    cases hm : m[k]? with
    | none => simp [Ra.frz, hm] at e
    | some c =>
      simp only [Ra.frz, hm, Res.ok.injEq] at e
      obtain ⟨rfl, rfl⟩ := e
      obtain ⟨S', e', r⟩ := S.fixCell hm q
      exact ⟨_, S', e', r⟩
/-- a new list becomes a cell -/
theorem SimM.mkCell (S : SimM K m g H) (h : RpV K g H x v) {m' : Mem} {v' : Val} (e : mkCell v m = .ok v' m') : ∃ g', SimM K m' g' H ∧ Ext g H g' H ∧ RpV K g' H x v' ∧ ∀ xs, v' ≠ .fr xs := by
  cases v with
  | d y =>
    simp only [Ra.mkCell, Res.ok.injEq] at e
    obtain ⟨rfl, rfl⟩ := e
    exact ⟨g, S, Ext.refl g H, h, by simp⟩
  | mr y =>
    simp only [Ra.mkCell, Res.ok.injEq] at e
    obtain ⟨rfl, rfl⟩ := e
    exact ⟨g, S, Ext.refl g H, h, by simp⟩
  | fr xs =>
    simp only [Ra.mkCell, Res.ok.injEq] at e
    obtain ⟨rfl, rfl⟩ := e
    obtain ⟨a, vs, rfl, h1, h2, h3, h4, h5⟩ := h
    have e : Ext g H ⟨g.F, g.ad ++ [a], g.pr⟩ H := ⟨fun _ h => h, fun _ _ => rfl, fun _ _ h => h, fun _ _ _ h => h, ⟨[a], rfl⟩, rfl, fun _ _ => rfl⟩
    refine ⟨⟨g.F, g.ad ++ [a], g.pr⟩, ⟨S.fs, by simp [S.len], ?_, fun k c b q1 q2 => ?_, S.sz, S.prs, S.prF, fun b hb w => ?_⟩, e, ⟨a, rfl, by simp [S.len]⟩, by simp⟩
    · exact List.nodup_append.mpr ⟨S.nd, by simp, fun u hu w hw => by
        simp at hw; subst hw; rintro rfl; exact h4 hu⟩
    · by_cases hk : k < m.length
      · rw [List.getElem?_append_left hk] at q1
        rw [List.getElem?_append_left (by rw [S.len]; exact hk)] at q2
        exact S.cell k c b q1 q2
      · have hk' : m.length ≤ k := Nat.le_of_not_lt hk
        rw [List.getElem?_append_right hk'] at q1
        rw [List.getElem?_append_right (by rw [S.len]; exact hk')] at q2
        have k0 : k - m.length = 0 := by
          have := (List.getElem?_eq_some_iff.mp q1).1
          simp at this
          omega
        rw [k0] at q1
        rw [S.len, k0] at q2
        simp at q1 q2
        subst q1 q2
        exact ⟨vs, h1, h2, fun z => by simp at z, fun _ => h3⟩
    · rcases List.mem_append.mp w with w | w
      · exact S.prA b hb w
      · have w' : b = a := by simpa using w
        subst w'
        exact h5 hb
/-- a new object -/
theorem ext_new {p : Addr} {o : HO} (S : SimM K m g H) (hp : H p = none) : Ext g H g (upd H p o) :=
  ⟨fun _ h => h, fun a h => by
    obtain ⟨xs, q⟩ := S.fs a h
    rw [upd_ne (ne_of_none q hp)], fun a xs h => by rw [upd_ne (ne_of_none h hp)]; exact h, fun a ob u h => by rw [upd_ne (ne_of_none h hp)]; exact h, ⟨[], by simp⟩, rfl, fun a h => by
    obtain ⟨o', q⟩ := S.prs a h
    rw [upd_ne (ne_of_none q hp)]⟩
/-- the length of what an object holds -/
def szOk : HO → Prop
  | .lst xs => xs.length ≤ sizeLine
  | .tup xs => xs.length ≤ sizeLine
  | .frz _ (.lst xs) => xs.length ≤ sizeLine
  | .frz _ (.tup xs) => xs.length ≤ sizeLine
  | _ => True
theorem sim_new {p : Addr} {o : HO} (S : SimM K m g H) (hp : H p = none) (ho : szOk o) : SimM K m g (upd H p o) := by
  have e := ext_new (o := o) S hp
  refine ⟨fun a h => ?_, S.len, S.nd, fun k c a h1 h2 => ?_, fun a xs h => ?_, fun a h => ?_, S.prF, S.prA⟩
  · obtain ⟨xs, q⟩ := S.fs a h
    exact ⟨xs, (e.fix a h).trans q⟩
  · obtain ⟨vs, q, r, t, z⟩ := S.cell k c a h1 h2
    exact ⟨vs, by rw [upd_ne (ne_of_none q hp)]; exact q, RpAll.ext e _ r, t, z⟩
  · by_cases ha : a = p
    · subst ha
      rw [upd_same] at h
      rcases h with h | h | ⟨ob, h⟩ | ⟨ob, h⟩ <;> (cases h; exact ho)
    · rw [upd_ne ha] at h
      exact S.sz a xs h
  · obtain ⟨o', q⟩ := S.prs a h
    exact ⟨o', (e.keep a h).trans q⟩
theorem not_pr {p : Addr} (S : SimM K m g H) (hp : H p = none) : ¬ g.pr p := fun h => by
  obtain ⟨o, q⟩ := S.prs p h
  rw [hp] at q; cases q
theorem not_ad {p : Addr} (S : SimM K m g H) (hp : H p = none) : p ∉ g.ad := fun h => by
  obtain ⟨k, hk⟩ := List.getElem?_of_mem h
  have hlt : k < m.length := by
    rw [← S.len]
    exact (List.getElem?_eq_some_iff.mp hk).1
  obtain ⟨vs, q, _⟩ := S.cell k m[k] p (List.getElem?_eq_getElem hlt) hk
  rw [hp] at q; cases q
theorem not_F {p : Addr} (S : SimM K m g H) (hp : H p = none) : ¬ g.F p := fun h => by
  obtain ⟨xs, q⟩ := S.fs p h
  rw [hp] at q; cases q
/-- a new list, a new tuple -/
theorem new_list {p : Addr} {vs : List V} {ds : List PyData} (S : SimM K m g H) (hp : H p = none) (h : RpAll K g.F H vs ds) (hz : vs.length ≤ sizeLine) :
    SimM K m g (upd H p (.lst vs)) ∧ Ext g H g (upd H p (.lst vs)) ∧ RpV K g (upd H p (.lst vs)) (.ref p) (.fr ds) :=
  ⟨sim_new S hp hz, ext_new S hp, p, vs, rfl, upd_same, RpAll.ext (ext_new S hp) _ h, not_F S hp, not_ad S hp, not_pr S hp⟩
theorem new_tup {p : Addr} {vs : List V} {ds : List PyData} (S : SimM K m g H) (hp : H p = none) (h : RpAll K g.F H vs ds) (hz : vs.length ≤ sizeLine) :
    SimM K m g (upd H p (.tup vs)) ∧ Ext g H g (upd H p (.tup vs)) ∧ RpV K g (upd H p (.tup vs)) (.ref p) (.d (.tuple ds)) :=
  ⟨sim_new S hp hz, ext_new S hp, Rp.tup (.inl (.inl upd_same)) (RpAll.ext (ext_new S hp) _ h)⟩
/-- a cell is changed -/
theorem up_cell {k : Nat} {c : Cell} {a : Addr} {ws : List V} {ys : List PyData} (S : SimM K m g H) (hm : m[k]? = some c) (ha : g.ad[k]? = some a) (hf : c.fz = false) (h : RpAll K g.F H ws ys) (hz : ws.length ≤ sizeLine) :
    SimM K (m.set k ⟨false, ys⟩) g (upd H a (.lst ws)) ∧ Ext g H g (upd H a (.lst ws)) := by
  obtain ⟨vs, p, q, r, t⟩ := S.cell k c a hm ha
  have hk : k < m.length := (List.getElem?_eq_some_iff.mp hm).1
  have nF := t hf
  have e : Ext g H g (upd H a (.lst ws)) := ⟨fun _ h => h, fun b hb => by
    have z : b ≠ a := fun z => nF (by rw [← z]; exact hb)
    rw [upd_ne z], fun b xs hb => by
    rw [upd_ne (ne_of hb p (by intro z; cases z))]; exact hb, fun b o u hb => by rw [upd_ne (ne_of hb p (by intro z; cases z))]; exact hb, ⟨[], by simp⟩, rfl, fun b hb => by
    have z : b ≠ a := fun z => S.prA b hb (by rw [z]; exact List.mem_of_getElem? ha)
    rw [upd_ne z]⟩
  refine ⟨⟨fun b hb => ?_, by rw [List.length_set]; exact S.len, S.nd, fun j c' b h1 h2 => ?_, fun b xs hb => ?_, fun b hb => ?_, S.prF, S.prA⟩, e⟩
  · obtain ⟨xs, z⟩ := S.fs b hb
    exact ⟨xs, (e.fix b hb).trans z⟩
  · by_cases hj : j = k
    · subst hj
      rw [List.getElem?_set_self hk] at h1
      cases h1
      rw [ha] at h2
      cases h2
      exact ⟨ws, upd_same, RpAll.ext e _ h, fun z => by simp at z, fun _ => nF⟩
    · rw [List.getElem?_set_ne (Ne.symm hj)] at h1
      obtain ⟨us, p', q', r', t'⟩ := S.cell j c' b h1 h2
      have nb : b ≠ a := fun z => by
        subst z
        have hlt : j < g.ad.length := (List.getElem?_eq_some_iff.mp h2).1
        exact hj ((List.getElem?_inj hlt S.nd).mp (h2.trans ha.symm))
      exact ⟨us, by rw [upd_ne nb]; exact p', RpAll.ext e _ q', r', t'⟩
  · by_cases hb' : b = a
    · subst hb'
      rw [upd_same] at hb
      rcases hb with z | z | ⟨_, z⟩ | ⟨_, z⟩
      · cases z; exact hz
      · cases z
      · cases z
      · cases z
    · rw [upd_ne hb'] at hb
      exact S.sz b xs hb
  · obtain ⟨o', q'⟩ := S.prs b hb
    exact ⟨o', (e.keep b hb).trans q'⟩
/-- the cells from n on are forgotten -/
theorem SimM.take (S : SimM K m g H) (n : Nat) : SimM K (m.take n) ⟨g.F, g.ad.take n, g.pr⟩ H :=
  ⟨S.fs, by rw [List.length_take, List.length_take, S.len], S.nd.sublist (List.take_sublist _ _), fun k c a h1 h2 => (by
    rw [List.getElem?_take] at h1 h2
    split at h1
    · rename_i hk
      rw [if_pos hk] at h2
      exact S.cell k c a h1 h2
    · cases h1), S.sz, S.prs, S.prF, fun b hb w => S.prA b hb (List.mem_of_mem_take w)⟩
theorem SimM.leave (S : SimM K m g H) {n : Nat} (h : RpV K g H x v) {m' : Mem} {v' : Val} (e : leave n v m = .ok v' m') (hn : n ≤ m.length) : m' = m.take n ∧ RpV K ⟨g.F, g.ad.take n, g.pr⟩ H x v' := by
  cases v with
  | d y =>
    simp only [Ra.leave, Res.ok.injEq] at e
    obtain ⟨rfl, rfl⟩ := e
    exact ⟨rfl, h⟩
  | fr xs =>
    simp only [Ra.leave, Res.ok.injEq] at e
    obtain ⟨rfl, rfl⟩ := e
    obtain ⟨a, vs, rfl, h1, h2, h3, h4, h5⟩ := h
    exact ⟨rfl, a, vs, rfl, h1, h2, h3, fun z => h4 (List.mem_of_mem_take z), h5⟩
  | mr k =>
    obtain ⟨a, rfl, q⟩ := h
    simp only [Ra.leave] at e
    split at e
    · rename_i hk
      simp only [Res.ok.injEq] at e
      obtain ⟨rfl, rfl⟩ := e
      exact ⟨rfl, a, rfl, by
        show (g.ad.take n)[k]? = some a
        rw [List.getElem?_take, if_pos hk]; exact q⟩
    · rename_i hk
      cases hm : m[k]? with
      | none => rw [hm] at e; simp at e
      | some c =>
        rw [hm] at e
        simp only [Res.ok.injEq] at e
        obtain ⟨rfl, rfl⟩ := e
        refine ⟨rfl, ?_⟩
        obtain ⟨vs, p, r, t, z⟩ := S.cell k c a hm q
        cases hc : c.fz with
        | true =>
          simp only [if_true]
          exact Rp.lst (.inl ⟨t hc, p⟩) r
        | false =>
          simp only [Bool.false_eq_true, if_false]
          refine ⟨a, vs, rfl, p, r, z hc, fun w => ?_, fun w => S.prA a w (List.mem_of_getElem? q)⟩
          obtain ⟨j, hj⟩ := List.getElem?_of_mem w
          have hj2 : (g.ad.take n)[j]? = some a := hj
          rw [List.getElem?_take] at hj2
          split at hj2
          · rename_i hjn
            have hlt : j < g.ad.length := (List.getElem?_eq_some_iff.mp hj2).1
            have := (List.getElem?_inj hlt S.nd).mp (hj2.trans q.symm)
            omega
          · cases hj2
end
end Ra


set_option Elab.async false
set_option linter.all false
set_option autoImplicit false
set_option maxRecDepth 100000
/-! readings by the evaluator -/
namespace Ra
open PySem PySem.Spec PyProof.Rows L2

def Rz (K : PySem.W.Frag) {α : Type} (r : Res α) (g : G) (H : Hp) (Q : α → Mem → G → Hp → Prop) : Prop :=
  match r with
  | .ok a m' => ∀ g' H', Ext g H g' H' → SimM K m' g' H' → Q a m' g' H'
  | .exc _ _ => False
  | .fail => False
section
variable {K : PySem.W.Frag} {α β : Type} {g g' : G} {H H' : Hp}
theorem Rz.ext {r : Res α} {Q : α → Mem → G → Hp → Prop} (e : Ext g H g' H') (h : Rz K r g H Q) : Rz K r g' H' Q := by
  cases r with
  | ok a m' => exact fun g2 H2 e2 => h g2 H2 (e.trans e2)
  | exc x m' => exact h
  | fail => exact h
theorem Rz.mono {r : Res α} {Q Q' : α → Mem → G → Hp → Prop} (h : Rz K r g H Q) (q : ∀ a m g' H', Ext g H g' H' → SimM K m g' H' → Q a m g' H' → Q' a m g' H') : Rz K r g H Q' := by
  cases r with
  | ok a m' => exact fun g2 H2 e2 s2 => q _ _ _ _ e2 s2 (h g2 H2 e2 s2)
  | exc x m' => exact h
  | fail => exact h
theorem Rz.bind {r : Res α} {f : α → Mem → Res β} {Q : β → Mem → G → Hp → Prop} (h : Rz K (r.bind f) g H Q) : Rz K r g H fun a m' g' H' => Rz K (f a m') g' H' Q := by
  cases r with
  | ok a m' => exact fun g2 H2 e2 s2 => Rz.ext e2 h
  | exc x m' => exact h
  | fail => exact h
theorem Rz.ok_now {a : α} {m : Mem} {Q : α → Mem → G → Hp → Prop} (h : Rz K (.ok a m) g H Q) (S : SimM K m g H) : Q a m g H := h g H (Ext.refl g H) S
theorem Rz.opt {o : Option α} {m : Mem} {Q : α → Mem → G → Hp → Prop} (h : Rz K (optR o m) g H Q) : ∃ a, o = some a ∧ Rz K (.ok a m) g H Q := by
  cases o with
  | none => exact h.elim
  | some a => exact ⟨a, rfl, h⟩
theorem Rz.rd {m : Mem} {v : Val} {Q : PyData → Mem → G → Hp → Prop} (h : Rz K (rdR m v) g H Q) : ∃ d, Ra.rd m v = some d ∧ Rz K (.ok d m) g H Q := Rz.opt h
theorem Rz.rdBind {m : Mem} {v : Val} {f : PyData → Mem → Res β} {Q : β → Mem → G → Hp → Prop} (h : Rz K ((rdR m v).bind f) g H Q) : ∃ d, Ra.rd m v = some d ∧ Rz K (f d m) g H Q := by
  unfold rdR optR at h
  cases e : Ra.rd m v with
  | none => rw [e] at h; exact h.elim
  | some d => rw [e] at h; exact ⟨d, rfl, h⟩
theorem Rz.optBind {o : Option α} {m : Mem} {f : α → Mem → Res β} {Q : β → Mem → G → Hp → Prop} (h : Rz K ((optR o m).bind f) g H Q) : ∃ d, o = some d ∧ Rz K (f d m) g H Q := by
  unfold optR at h
  cases o with
  | none => exact h.elim
  | some d => exact ⟨d, rfl, h⟩
end
/-- the names -/
structure Sg (K : PySem.W.Frag) (env : Env) (σ : L2.St) (g : G) (H : Hp) : Prop where
  len : env.length = σ.length
  at_ : ∀ i v, getV env i = some v → ∃ x, σ[i]? = some (some x) ∧ RpV K g H x v ∧ ∀ xs, v ≠ .fr xs
section
variable {K : PySem.W.Frag} {α β : Type} {g g' : G} {H H' : Hp} {env : Env} {σ : L2.St}
theorem Sg.ext (s : Sg K env σ g H) (e : Ext g H g' H') : Sg K env σ g' H' := ⟨s.len, fun i v h => by
  obtain ⟨x, h1, h2, h3⟩ := s.at_ i v h
  exact ⟨x, h1, h2.ext e h3, h3⟩⟩
theorem getV_set {i j : Nat} {v : Option Val} : getV (env.set i v) j = if i = j then (if i < env.length then v else none) else getV env j := by
  unfold getV
  rw [List.getElem?_set]
  by_cases h : i = j
  · subst h
    simp only [if_true]
    by_cases h2 : i < env.length
    · simp [h2]
    · simp [h2]
  · simp [h]
theorem Sg.set (s : Sg K env σ g H) {i : Nat} {v : Val} {x : V} (h : RpV K g H x v) (hf : ∀ xs, v ≠ .fr xs) (hi : i < env.length) : Sg K (setV env i v) (σ.set i (some x)) g H := by
  refine ⟨by simp [setV, s.len], fun j w q => ?_⟩
  unfold setV at q
  rw [getV_set] at q
  by_cases hj : i = j
  · subst hj
    rw [if_pos rfl, if_pos hi] at q
    cases q
    exact ⟨x, by rw [List.getElem?_set_self (by rw [← s.len]; exact hi)], h, hf⟩
  · rw [if_neg hj] at q
    obtain ⟨y, h1, h2, h3⟩ := s.at_ j w q
    exact ⟨y, by rw [List.getElem?_set_ne hj]; exact h1, h2, h3⟩
theorem Sg.wipe1 (s : Sg K env σ g H) (i : Nat) : Sg K (env.set i none) (σ.set i none) g H := by
  refine ⟨by simp [s.len], fun j w q => ?_⟩
  rw [getV_set] at q
  by_cases hj : i = j
  · subst hj
    rw [if_pos rfl] at q
    split at q <;> cases q
  · rw [if_neg hj] at q
    obtain ⟨y, h1, h2, h3⟩ := s.at_ j w q
    exact ⟨y, by rw [List.getElem?_set_ne hj]; exact h1, h2, h3⟩
theorem Sg.wipe (s : Sg K env σ g H) : ∀ vs : List Nat, Sg K (Ra.wipe env vs) (L2.wipe σ vs) g H
  | [] => s
  | v :: vs => (Sg.wipe s vs).wipe1 v
end
/-- readings -/
def tE (K : PySem.W.Frag) (p : EV) : TE := fun σ H Q => ∃ env m g, Sg K env σ g H ∧ SimM K m g H ∧ Rz K (p env m) g H fun v _ g' H' => ∀ x, RpV K g' H' x v → Q x H'
def tT (K : PySem.W.Frag) (p : ET) : TT := fun σ H Q => ∃ env m g, Sg K env σ g H ∧ SimM K m g H ∧ Rz K (p env m) g H fun b _ _ H' => Q b H'
inductive RpVs (K : PySem.W.Frag) (g : G) (H : Hp) : List V → List Val → Prop
  | nil : RpVs K g H [] []
  | cons {x : V} {xs : List V} {v : Val} {vs : List Val} : RpV K g H x v → (∀ ys, v ≠ .fr ys) → RpVs K g H xs vs → RpVs K g H (x :: xs) (v :: vs)
def tAr (K : PySem.W.Frag) (p : Env → Mem → Res (List Val)) : TA := fun σ H Q => ∃ env m g, Sg K env σ g H ∧ SimM K m g H ∧ Rz K (p env m) g H fun vs _ g' H' => ∀ xs, RpVs K g' H' xs vs → Q xs H'
def tIt (K : PySem.W.Frag) (p : Env → Mem → Res (List PyData)) : TA := fun σ H Q => ∃ env m g, Sg K env σ g H ∧ SimM K m g H ∧ Rz K (p env m) g H fun ds _ g' H' => ∀ xs, RpAll K g'.F H' xs ds → Q xs H'
section
variable {X : Cx} {e : Expr} {es : List Expr} {t t' : TE}
theorem PE.weak (h : PE X e t) (w : ∀ σ H Q, t' σ H Q → t σ H Q) : PE X e t' := ⟨fun pins s σ H Q I q => h.run pins s σ H Q I (w σ H Q q)⟩
theorem PT.weak {t t' : TT} (h : PT X e t) (w : ∀ σ H Q, t' σ H Q → t σ H Q) : PT X e t' := ⟨fun pins s σ H Q I q => h.run pins s σ H Q I (w σ H Q q)⟩
theorem PW.weak {t t' : TT} (h : PW X e t) (w : ∀ σ H Q, t' σ H Q → t σ H Q) : PW X e t' := ⟨fun wh pins s σ H Q I q => h.run wh pins s σ H Q I (w σ H Q q)⟩
theorem PA.weak {t t' : TA} (h : PA X es t) (w : ∀ σ H Q, t' σ H Q → t σ H Q) : PA X es t' := ⟨fun pos pins s σ H Q I q => h.run pos pins s σ H Q I (w σ H Q q)⟩
theorem PS.weak {st : Stmt} {t t' : TS} (h : PS X st t) (w : ∀ D σ H, t' D σ H → t D σ H) : PS X st t' := ⟨fun pins s σ H D I q => h.run pins s σ H D I (w D σ H q)⟩
theorem PSs.weak {st : List Stmt} {t t' : TS} (h : PSs X st t) (w : ∀ D σ H, t' D σ H → t D σ H) : PSs X st t' := ⟨fun pins s σ H D I q => h.run pins s σ H D I (w D σ H q)⟩
theorem PI.weak {tg it : Expr} {t t' : TI} (h : PI X tg it t) (w : ∀ σ H Q, t' σ H Q → t σ H Q) : PI X tg it t' := ⟨fun pins s σ H R I q => h.run pins s σ H R I (w σ H R q)⟩
theorem PI.or {tg it : Expr} {t t' : TI} (h : PI X tg it t) (h' : PI X tg it t') : PI X tg it (fun σ H R => t σ H R ∨ t' σ H R) := ⟨fun pins s σ H R I q => q.elim (h.run pins s σ H R I) (h'.run pins s σ H R I)⟩
theorem OpR.or {f : Value → Value → Sem Value} {r r' : R2} (h : OpR X f r) (h' : OpR X f r') : OpR X f (fun x y H Q => r x y H Q ∨ r' x y H Q) := fun pins s σ H x y v u Q I rx ry q => q.elim (h pins s σ H x y v u Q I rx ry) (h' pins s σ H x y v u Q I rx ry)
theorem OpR.weak {f : Value → Value → Sem Value} {r r' : R2} (h : OpR X f r) (w : ∀ x y H Q, r' x y H Q → r x y H Q) : OpR X f r' := fun pins s σ H x y v u Q I rx ry q => h pins s σ H x y v u Q I rx ry (w _ _ _ _ q)
theorem CallR.or {f : Value} {r r' : List V → Hp → VK → Prop} (h : CallR X f r) (h' : CallR X f r') : CallR X f (fun xs H Q => r xs H Q ∨ r' xs H Q) := fun pins s σ H xs us Q I rx q => q.elim (h pins s σ H xs us Q I rx) (h' pins s σ H xs us Q I rx)
theorem CallR.weak {f : Value} {r r' : List V → Hp → VK → Prop} (h : CallR X f r) (w : ∀ xs H Q, r' xs H Q → r xs H Q) : CallR X f r' := fun pins s σ H xs us Q I rx q => h pins s σ H xs us Q I rx (w _ _ _ q)
end
/-! the operators, by what they read -/
def rOp (K : PySem.W.Frag) (f : PyData → PyData → Mem → Res Val) : R2 := fun x y H Q => ∃ m g dx dy, SimM K m g H ∧ Rr K g.F H x dx ∧ Rr K g.F H y dy ∧ Rz K (f dx dy m) g H fun v _ g' H' => ∀ z, RpV K g' H' z v → Q z H'
/-- two operands -/
theorem c2_ok {K : PySem.W.Frag} {pa pb : P} {f : PyData → PyData → Mem → Res Val} {σ : L2.St} {H : Hp} {Q : VK} (h : tE K (c2 pa pb f) σ H Q) :
    tE K pa.v σ H fun x H1 => tE K pb.v σ H1 fun y H2 => rOp K f x y H2 Q := by
  obtain ⟨env, m, g, hs, hm, hz⟩ := h
  refine ⟨env, m, g, hs, hm, (Rz.bind hz).mono fun va m1 g1 H1 e1 s1 z1 x rx => ?_⟩
  obtain ⟨g1', s1', e1', rx'⟩ := s1.hold rx
  refine ⟨env, m1, g1', (hs.ext e1).ext e1', s1', (Rz.bind (z1.ext e1')).mono fun vb m2 g2 H2 e2 s2 z2 y ry => ?_⟩
  obtain ⟨g2', s2', e2', ry'⟩ := s2.hold ry
  obtain ⟨dx, hx, z3⟩ := Rz.rdBind (z2.ext e2')
  obtain ⟨dy, hy, z4⟩ := Rz.rdBind z3
  exact ⟨m2, g2', dx, dy, s2', s2'.read (nf_ne va) (RpV.ext (e2.trans e2') (nf_ne va) rx') hx, s2'.read (nf_ne vb) ry' hy, z4⟩
theorem pe_c2 {X : Cx} {a b : Expr} {op : Operator} {pos : Pos} {pa pb : P} {f : PyData → PyData → Mem → Res Val} (ha : PE X a (tE X.K pa.v)) (hb : PE X b (tE X.K pb.v)) (ho : OpR X (binaryOp op) (rOp X.K f)) :
    PE X (.BinOp a op b pos) (tE X.K (c2 pa pb f)) := PE.weak (pe_op ho ha hb) fun _ _ _ h => c2_ok h
theorem c1_ok {K : PySem.W.Frag} {pa : P} {f : PyData → Mem → Res Val} {σ : L2.St} {H : Hp} {Q : VK} (h : tE K (c1 pa f) σ H Q) :
    tE K pa.v σ H fun x H1 => ∃ m g dx, SimM K m g H1 ∧ Rr K g.F H1 x dx ∧ Rz K (f dx m) g H1 fun v _ g' H' => ∀ z, RpV K g' H' z v → Q z H' := by
  obtain ⟨env, m, g, hs, hm, hz⟩ := h
  refine ⟨env, m, g, hs, hm, (Rz.bind hz).mono fun va m1 g1 H1 e1 s1 z1 x rx => ?_⟩
  obtain ⟨g1', s1', e1', rx'⟩ := s1.hold rx
  obtain ⟨dx, hx, z3⟩ := Rz.rdBind (z1.ext e1')
  exact ⟨m1, g1', dx, s1', s1'.read (nf_ne va) rx' hx, z3⟩
end Ra


set_option Elab.async false
set_option linter.all false
set_option autoImplicit false
set_option maxRecDepth 100000
/-! the operators -/
namespace Ra
open PySem PySem.Spec PyProof.Rows L2
theorem lim_eq : lim = sizeLine := by rw [sizeLine_eq]; rfl
section
variable {K : PySem.W.Frag} {F : Addr → Prop} {H : Hp} {x : V}
theorem Rr.int {i : Int} (h : Rr K F H x (.int i)) : x = .int i := by cases h; rfl
theorem Rr.bool {b : Bool} (h : Rr K F H x (.bool b)) : x = .bl b := by cases h; rfl
theorem Rr.str {z : Str} (h : Rr K F H x (.str z)) : x = .str z := by cases h; rfl
theorem Rr.sok {z : Str} (h : Rr K F H x (.str z)) : sOk z = true := by
  cases h with
  | str _ h => exact h
theorem sok_len {z : Str} (h : sOk z = true) : z.length ≤ sizeLine := by
  rw [← lim_eq]; exact of_decide_eq_true (Bool.and_eq_true_iff.mp h).2
theorem Rr.none (h : Rr K F H x .none) : x = .non := by cases h; rfl
theorem Rr.tup {ds : List PyData} (h : Rr K F H x (.tuple ds)) : ∃ a xs, x = .ref a ∧ SqT K H a xs ∧ RpAll K F H xs ds := by
  cases h with
  | tup a b => exact ⟨_, _, rfl, a, b⟩
theorem Rr.lst {ds : List PyData} (h : Rr K F H x (.list ds)) : ∃ a xs, x = .ref a ∧ Rd H a (.lst xs) ∧ RpAll K F H xs ds := h
mutual
theorem Rp.dp : ∀ (d : PyData) {x : V}, Rp K F H x d → Dp K H x d
  | .none, _, h => by cases h; exact .non
  | .bool b, _, h => by cases h; exact .bl b
  | .int i, _, h => by cases h; exact .int i
  | .str s, _, h => by
    cases h with
    | str _ h => exact .str s
  | .list ds, _, h => by
    cases h with
    | lst a b => exact .lst (.inl a.rd) (RpAll.dp ds b)
  | .tuple ds, _, h => by
    cases h with
    | tup a b => exact .tup a (RpAll.dp ds b)
  | .dict _, _, h => by cases h
theorem RpAll.dp : ∀ (ds : List PyData) {xs : List V}, RpAll K F H xs ds → DpAll K H xs ds
  | [], _, h => by cases h; exact .nil
  | d :: ds, _, h => by
    cases h with
    | cons a b => exact .cons (Rp.dp d a) (RpAll.dp ds b)
end
mutual
theorem Rp.lay : ∀ (d : PyData) {x : V}, Rp K F H x d → d.canLay0 = true
  | .none, _, h => rfl
  | .bool b, _, h => rfl
  | .int i, _, h => rfl
  | .str s, _, h => by
    cases h with
    | str _ h => exact (Bool.and_eq_true_iff.mp h).1
  | .list ds, _, h => by
    cases h with
    | lst a b => exact RpAll.lay ds b
  | .tuple ds, _, h => by
    cases h with
    | tup a b => exact RpAll.lay ds b
  | .dict _, _, h => by cases h
theorem RpAll.lay : ∀ (ds : List PyData) {xs : List V}, RpAll K F H xs ds → PyData.canLayAll0 ds = true
  | [], _, h => rfl
  | d :: ds, _, h => by
    cases h with
    | cons a b =>
      have h1 := Rp.lay d a
      have h2 := RpAll.lay ds b
      simp [PyData.canLayAll0, h1, h2]
end
theorem Rr.dp {d : PyData} (h : Rr K F H x d) : Dp K H x d := by
  cases d with
  | list ds =>
    obtain ⟨a, xs, rfl, h1, h2⟩ := h
    exact .lst (.inl h1) (RpAll.dp _ h2)
  | none => exact Rp.dp _ h
  | bool b => exact Rp.dp _ h
  | int b => exact Rp.dp _ h
  | str b => exact Rp.dp _ h
  | tuple b => exact Rp.dp _ h
  | dict b => exact Rp.dp _ h
theorem Rr.lay {d : PyData} (h : Rr K F H x d) : d.canLay0 = true := by
  cases d with
  | list ds =>
    obtain ⟨a, xs, rfl, h1, h2⟩ := h
    exact RpAll.lay _ h2
  | none => exact Rp.lay _ h
  | bool b => exact Rp.lay _ h
  | int b => exact Rp.lay _ h
  | str b => exact Rp.lay _ h
  | tuple b => exact Rp.lay _ h
  | dict b => exact Rp.lay _ h
end
section
variable {X : Cx}
theorem lstR {pins : List (Addr × Obj)} {σ : L2.St} {H : Hp} {s : Shared} {l : Addr} {xs : List V} (I : Inv X pins σ H s) (hH : Rd H l (.lst xs)) :
    xs.length ≤ sizeLine ∧ ∃ (its : List Value) (n : Nat), Vals xs its ∧ xs.length = its.length ∧ s.heap.get? l = some { cls := .type "list", data := .seq its.toArray n } := by
  obtain ⟨z, its, n, r, e⟩ := hH.ok I.hok
  exact ⟨z, its, n, r, r.length, e⟩
/-- the answer is a value of data -/
abbrev Ans (K : PySem.W.Frag) (Q : VK) : Val → Mem → G → Hp → Prop := fun v _ g' H' => ∀ z, RpV K g' H' z v → Q z H'
theorem ans_d {K : PySem.W.Frag} {Q : VK} {m : Mem} {g : G} {H : Hp} {d : PyData} {x : V} (S : SimM K m g H) (h : Rz K (.ok (.d d) m) g H (Ans K Q)) (r : Rp K g.F H x d) : Q x H := Rz.ok_now h S x r
theorem ans_l {K : PySem.W.Frag} {Q : VK} {m : Mem} {g : G} {H : Hp} {ds : List PyData} {vs : List V} {p : Addr} (S : SimM K m g H) (h : Rz K (.ok (.fr ds) m) g H (Ans K Q)) (r : RpAll K g.F H vs ds) (hz : vs.length ≤ sizeLine) (hp : H p = none) :
    Q (.ref p) (upd H p (.lst vs)) := by
  obtain ⟨S', e, q⟩ := new_list S hp r hz
  exact h _ _ e S' _ q
theorem ans_t {K : PySem.W.Frag} {Q : VK} {m : Mem} {g : G} {H : Hp} {ds : List PyData} {vs : List V} {p : Addr} (S : SimM K m g H) (h : Rz K (.ok (.d (.tuple ds)) m) g H (Ans K Q)) (r : RpAll K g.F H vs ds) (hz : vs.length ≤ sizeLine) (hp : H p = none) :
    Q (.ref p) (upd H p (.tup vs)) := by
  obtain ⟨S', e, q⟩ := new_tup S hp r hz
  exact h _ _ e S' _ q
theorem sok_cat {x y : Str} (hx : sOk x = true) (hy : sOk y = true) (h : x.length + y.length ≤ lim) : sOk (x ++ y) = true := by
  obtain ⟨a, _⟩ := Bool.and_eq_true_iff.mp hx
  obtain ⟨b, _⟩ := Bool.and_eq_true_iff.mp hy
  refine Bool.and_eq_true_iff.mpr ⟨?_, decide_eq_true ?_⟩
  · show ((x.cps ++ y.cps).all (· < 0x110000)) = true
    rw [Array.all_append, Bool.and_eq_true_iff]
    exact ⟨a, b⟩
  · show (x.cps ++ y.cps).size ≤ lim
    rw [Array.size_append]; exact h
theorem or_add : OpR X (binaryOp .Add) (rOp X.K fun x y m => optR (bop .add x y) m) := by
  intro pins s σ H x y v u Q I rx ry h
  obtain ⟨m, g, dx, dy, S, hx, hy, hz⟩ := h
  obtain ⟨w, hw, hz⟩ := Rz.opt hz
  replace hw : addD dx dy = some w := hw
  unfold addD at hw
  split at hw
  · cases hw
    have e1 := hx.int; have e2 := hy.int; subst e1 e2
    exact op_add pins s σ H _ _ v u Q I rx ry ⟨_, _, rfl, rfl, ans_d S hz (.int _)⟩
  · split at hw
    · rename_i hl
      cases hw
      have e1 := hx.str; have e2 := hy.str; subst e1 e2
      exact op_add_str pins s σ H _ _ v u Q I rx ry ⟨_, _, rfl, rfl, by rw [← lim_eq]; exact hl, ans_d S hz (.str _ (sok_cat hx.sok hy.sok hl))⟩
    · cases hw
  · split at hw
    · rename_i hl
      cases hw
      obtain ⟨a, vs, rfl, h1, h2⟩ := hx.lst
      obtain ⟨b, ws, rfl, h3, h4⟩ := hy.lst
      cases rx
      cases ry
      obtain ⟨z, its, n, r, hl1, e⟩ := lstR I h1
      obtain ⟨z2, its2, n2, r2, hl2, e2⟩ := lstR I h3
      have hh : vs.length + ws.length ≤ sizeLine := by rw [← lim_eq, h2.length, h4.length]; exact hl
      refine PySem.P.add_list e e2 ?_ (by
        rw [List.size_toArray, List.size_toArray]
        omega)
      rw [show its.toArray ++ its2.toArray = (its ++ its2).toArray by simp]
      exact ⟨.ref _, _, I.lnew (t' := s.toks) (r.append r2) (by rw [List.length_append]; omega), rfl, ans_l S hz (h2.append h4) (by rw [List.length_append]; exact hh) I.fresh⟩
    · cases hw
  · split at hw
    · rename_i hl
      cases hw
      obtain ⟨a, vs, rfl, h1, h2⟩ := hx.tup
      obtain ⟨b, ws, rfl, h3, h4⟩ := hy.tup
      have hh : vs.length + ws.length ≤ sizeLine := by rw [← lim_eq, h2.length, h4.length]; exact hl
      refine op_catA pins s σ H _ _ v u Q I rx ry ⟨a, b, vs, ws, rfl, rfl, h1, h3, hh, fun e => ?_, fun _ e => ?_, fun _ _ p hp => ans_t S hz (h2.append h4) (by rw [List.length_append]; exact hh) hp⟩
      · subst e
        cases h2
        exact ans_d S hz (.tup h3 h4)
      · subst e
        cases h4
        rw [List.append_nil] at hz
        exact ans_d S hz (.tup h1 h2)
    · cases hw
  · cases hw
theorem or_sub : OpR X (binaryOp .Sub) (rOp X.K fun x y m => optR (bop .sub x y) m) := by
  intro pins s σ H x y v u Q I rx ry h
  obtain ⟨m, g, dx, dy, S, hx, hy, hz⟩ := h
  obtain ⟨w, hw, hz⟩ := Rz.opt hz
  replace hw : subD dx dy = some w := hw
  unfold subD at hw
  split at hw
  · cases hw
    have e1 := hx.int; have e2 := hy.int; subst e1 e2
    exact op_sub pins s σ H _ _ v u Q I rx ry ⟨_, _, rfl, rfl, ans_d S hz (.int _)⟩
  · cases hw
theorem rep_ok {pins : List (Addr × Obj)} {σ : L2.St} {H : Hp} {s : Shared} {l : Addr} {ws : List V} {j : Int} {tk : Tok} {Q : VK} (I : Inv X pins σ H s) (hw : Rd H l (.lst ws)) (j1 : -(2 ^ 63) ≤ j) (j2 : j < 2 ^ 63)
    (hj : ws.length * j.toNat ≤ sizeLine) (fin : ∀ p, H p = none → Q (.ref p) (upd H p (.lst (List.replicate j.toNat ws).flatten))) : wpAny (model X.prog X.w) X.A (binaryOp .Mult (.ref l) (.int j tk)) (EP X pins σ Q) X.xe s := by
  obtain ⟨zz, is, nn, rv, hlen0, eo⟩ := lstR I hw
  have b1 : is.toArray.size * j.toNat ≤ sizeLine := by
    rw [List.size_toArray, ← hlen0]
    exact hj
  have b2 : ¬ is.toArray.size * j.toNat > (2 ^ 63 - 1) / 8 := by
    have z : (sizeLine : Nat) ≤ (2 ^ 63 - 1) / 8 := by decide
    omega
  have b3 : ¬ (!Builtin.List.listFitsIndex j) = true := by
    rw [fitsIndex_both j1 j2]
    decide
  have b4 : ¬ Builtin.List.listTooLong (is.toArray.size * j.toNat) = true := by
    rw [notLongL b1]
    decide
  have made : List.foldl (fun a b => a ++ b) #[] (List.replicate (if is.toArray.isEmpty = true then 0 else j.toNat) is.toArray) = (List.replicate j.toNat is).flatten.toArray := by
    have all : ∀ n : Nat, List.foldl (fun a b => a ++ b) #[] (List.replicate n is.toArray) = (List.replicate n is).flatten.toArray := fun n => by
      have q := foldl_rep is n []
      rw [List.nil_append] at q
      exact q
    rw [all]
    cases is with
    | nil => simp
    | cons _ _ => rw [if_neg (by simp)]
  refine wpAny_binaryOp_repeat_ref (T := "list") (U := "int") (by decide) ⟨_, eo, rfl⟩ (fun s' => typeIs_int s' j tk) noFill_list_mul F.fills_int_mul F.slot_int_rmul repeat_list
    F.slot_int_index.lookup (call_meets F.slot_int_rmul (typeIs_int s j tk) F.entry_int_rmul (F.args_int_rmul_2 _ _) (int___rmul___int_list j tk l is.toArray nn) ⟨eo, rfl, ⟨_, eo, rfl⟩,
      call_meets F.slot_list_mul ⟨_, eo, rfl⟩ F.entry_list_mul (F.args_list_mul_2 _ _) (AutoListH.list___mul___list_int_3 l is.toArray nn j tk b3 b2 b4) ⟨eo, ?_⟩⟩)
  rw [made]
  exact ⟨.ref _, _, I.lnew (t' := s.toks) (rv.rep j.toNat) (by rw [PyProof.Rows.lm_len_rep_flat, Nat.mul_comm]; exact hj), rfl, fin _ I.fresh⟩
theorem small64_ok {i j : Int} (h : (small64 i || small64 j) = true) : CMul i j := by
  unfold small64 at h
  simp only [Bool.or_eq_true, Bool.and_eq_true, decide_eq_true_eq] at h
  exact h
theorem or_mul : OpR X (binaryOp .Mult) (rOp X.K fun x y m => optR (bop .mul x y) m) := by
  intro pins s σ H x y v u Q I rx ry h
  obtain ⟨m, g, dx, dy, S, hx, hy, hz⟩ := h
  obtain ⟨w, hw, hz⟩ := Rz.opt hz
  replace hw : mulD dx dy = some w := hw
  unfold mulD at hw
  split at hw
  · split at hw
    · rename_i hc
      cases hw
      have e1 := hx.int; have e2 := hy.int; subst e1 e2
      exact op_mul pins s σ H _ _ v u Q I rx ry ⟨_, _, rfl, rfl, small64_ok hc, ans_d S hz (.int _)⟩
    · cases hw
  · split at hw
    · rename_i k hc
      cases hw
      obtain ⟨c1, c2, c3⟩ := hc
      obtain ⟨a, vs, rfl, h1, h2⟩ := hx.lst
      have e2 := hy.int; subst e2
      cases rx
      obtain ⟨t, rfl⟩ := ry
      obtain ⟨z, its, n, r, hl, e⟩ := lstR I h1
      have hc3 : vs.length * k.toNat ≤ sizeLine := by rw [← lim_eq, h2.length]; exact c3
      exact rep_ok I h1 (by omega) (by omega) hc3 (fun p hp => ans_l S hz (h2.rep _) (by
        rw [List.length_flatten, List.map_replicate, List.sum_replicate_nat, Nat.mul_comm]; exact hc3) hp)
    · cases hw
  · cases hw
theorem or_fdiv : OpR X (binaryOp .FloorDiv) (rOp X.K fun x y m => optR (bop .fdiv x y) m) := by
  intro pins s σ H x y v u Q I rx ry h
  obtain ⟨m, g, dx, dy, S, hx, hy, hz⟩ := h
  obtain ⟨w, hw, hz⟩ := Rz.opt hz
  replace hw : fdivD dx dy = some w := hw
  unfold fdivD at hw
  split at hw
  · split at hw
    · rename_i hc
      cases hw
      have e1 := hx.int; have e2 := hy.int; subst e1 e2
      exact op_fdivN pins s σ H _ _ v u Q I rx ry ⟨_, _, rfl, rfl, hc, ans_d S hz (.int _)⟩
    · cases hw
  · cases hw
theorem or_mod : OpR X (binaryOp .Mod) (rOp X.K fun x y m => optR (bop .mod x y) m) := by
  intro pins s σ H x y v u Q I rx ry h
  obtain ⟨m, g, dx, dy, S, hx, hy, hz⟩ := h
  obtain ⟨w, hw, hz⟩ := Rz.opt hz
  replace hw : modD dx dy = some w := hw
  unfold modD at hw
  split at hw
  · split at hw
    · rename_i hc
      cases hw
      have e1 := hx.int; have e2 := hy.int; subst e1 e2
      exact op_modN pins s σ H _ _ v u Q I rx ry ⟨_, _, rfl, rfl, hc, ans_d S hz (.int _)⟩
    · cases hw
  · cases hw
theorem or_pow : OpR X (binaryOp .Pow) (rOp X.K fun x y m => optR (bop .pow x y) m) := by
  intro pins s σ H x y v u Q I rx ry h
  obtain ⟨m, g, dx, dy, S, hx, hy, hz⟩ := h
  obtain ⟨w, hw, hz⟩ := Rz.opt hz
  replace hw : powD dx dy = some w := hw
  unfold powD at hw
  split at hw
  · split at hw
    · rename_i hc
      cases hw
      have e1 := hx.int; have e2 := hy.int; subst e1 e2
      exact op_pow pins s σ H _ _ v u Q I rx ry ⟨_, _, rfl, rfl, ⟨hc.1, by omega, hc.2.2⟩, ans_d S hz (.int _)⟩
    · cases hw
  · cases hw
/-! comparisons -/
theorem or_cmp {op : CmpOp} {o : Cop} {r : R2} (h : OpR X (compareOp op) r) (w : ∀ m g dx dy x y H Q c, SimM X.K m g H → Rr X.K g.F H x dx → Rr X.K g.F H y dy → cmp o dx dy = some c → Q (.bl c) H → r x y H Q) : OpR X (compareOp op) (rOp X.K (cmpR o)) := by
  intro pins s σ H x y v u Q I rx ry q
  obtain ⟨m, g, dx, dy, S, hx, hy, hz⟩ := q
  obtain ⟨c, hc, hz⟩ := Rz.optBind hz
  exact h pins s σ H x y v u Q I rx ry (w m g dx dy x y H Q c S hx hy hc (ans_d S hz (.bl c)))
theorem or_lt (hu : X.A.units + 200 < cLine) : OpR X (compareOp .Lt) (rOp X.K (cmpR .lt)) := by
  intro pins s σ H x y v u Q I rx ry q
  obtain ⟨m, g, dx, dy, S, hx, hy, hz⟩ := q
  obtain ⟨c, hc, hz⟩ := Rz.optBind hz
  simp only [cmp] at hc
  unfold ltD at hc
  split at hc
  · cases hc
    have e1 := hx.int; have e2 := hy.int; subst e1 e2
    exact op_lt pins s σ H _ _ v u Q I rx ry ⟨_, _, rfl, rfl, ans_d S hz (.bl _)⟩
  · cases hc
    have e1 := hx.str; have e2 := hy.str; subst e1 e2
    exact op_lt_str pins s σ H _ _ v u Q I rx ry ⟨_, _, rfl, rfl, ans_d S hz (.bl _)⟩
  · split at hc
    · rename_i hd
      cases hc
      obtain ⟨as, r1⟩ := Dp.reads I _ x v hx.dp rx
      obtain ⟨bs, r2⟩ := Dp.reads I _ y u hy.dp ry
      obtain ⟨ha, hd'⟩ := Bool.and_eq_true_iff.mp hd
      have hd2 : min (PyData.depth (.tuple _)) (PyData.depth (.tuple _)) ≤ 64 := of_decide_eq_true hd'
      exact PySem.W.rcLt_alike _ _ X.A s v u as bs r1 r2 ha (by simp) (by omega) X.prog X.w X.xe _ ⟨.bl _, H, I, rfl, ans_d S hz (.bl _)⟩
    · cases hc
  · cases hc
theorem or_le : OpR X (compareOp .LtE) (rOp X.K (cmpR .le)) := by
  refine or_cmp op_le fun m g dx dy x y H Q c S hx hy hc q => ?_
  simp only [cmp] at hc
  unfold leD at hc
  split at hc
  · cases hc
    have e1 := hx.int; have e2 := hy.int; subst e1 e2
    exact ⟨_, _, rfl, rfl, q⟩
  · cases hc
theorem or_gt : OpR X (compareOp .Gt) (rOp X.K (cmpR .gt)) := by
  refine or_cmp op_gt fun m g dx dy x y H Q c S hx hy hc q => ?_
  simp only [cmp] at hc
  unfold gtD at hc
  split at hc
  · cases hc
    have e1 := hx.int; have e2 := hy.int; subst e1 e2
    exact ⟨_, _, rfl, rfl, q⟩
  · cases hc
theorem or_ge : OpR X (compareOp .GtE) (rOp X.K (cmpR .ge)) := by
  refine or_cmp op_ge fun m g dx dy x y H Q c S hx hy hc q => ?_
  simp only [cmp] at hc
  unfold geD at hc
  split at hc
  · cases hc
    have e1 := hx.int; have e2 := hy.int; subst e1 e2
    exact ⟨_, _, rfl, rfl, q⟩
  · cases hc
theorem or_eq (hu : X.A.units + 200 < cLine) : OpR X (compareOp .Eq) (rOp X.K (cmpR .eq)) := by
  intro pins s σ H x y v u Q I rx ry q
  obtain ⟨m, g, dx, dy, S, hx, hy, hz⟩ := q
  obtain ⟨c, hc, hz⟩ := Rz.optBind hz
  simp only [cmp] at hc
  split at hc
  · rename_i hd
    cases hc
    obtain ⟨as, r1⟩ := Dp.reads I dx x v hx.dp rx
    obtain ⟨bs, r2⟩ := Dp.reads I dy y u hy.dp ry
    have hd' : min dx.depth dy.depth ≤ 64 := of_decide_eq_true hd
    exact SeqAt.compareEq_reads r1 r2 hx.lay hy.lay (by omega) ⟨.bl _, H, I, rfl, ans_d S hz (.bl _)⟩
  · cases hc
theorem or_ne (hu : X.A.units + 200 < cLine) : OpR X (compareOp .NotEq) (rOp X.K (cmpR .ne)) := by
  intro pins s σ H x y v u Q I rx ry q
  obtain ⟨m, g, dx, dy, S, hx, hy, hz⟩ := q
  obtain ⟨c, hc, hz⟩ := Rz.optBind hz
  simp only [cmp] at hc
  split at hc
  · rename_i hd
    cases hc
    obtain ⟨as, r1⟩ := Dp.reads I dx x v hx.dp rx
    obtain ⟨bs, r2⟩ := Dp.reads I dy y u hy.dp ry
    have hd' : min dx.depth dy.depth ≤ 64 := of_decide_eq_true hd
    exact SeqAt.compareNe_reads r1 r2 hx.lay hy.lay (by omega) ⟨.bl _, H, I, rfl, ans_d S hz (.bl _)⟩
  · cases hc
theorem or_in (hu : X.A.units + 200 < cLine) : OpR X (compareOp .In) (rOp X.K (cmpR .isin)) := by
  intro pins s σ H x y v u Q I rx ry q
  obtain ⟨m, g, dx, dy, S, hx, hy, hz⟩ := q
  obtain ⟨c, hc, hz⟩ := Rz.optBind hz
  simp only [cmp] at hc
  unfold inD at hc
  split at hc
  · cases hc
    have e1 := hx.str; have e2 := hy.str; subst e1 e2
    exact op_in_str pins s σ H _ _ v u Q I rx ry ⟨_, _, rfl, rfl, ans_d S hz (.bl _)⟩
  · unfold inAll at hc
    split at hc
    · rename_i hd
      cases hc
      obtain ⟨as, r1⟩ := Dp.reads I _ x v hx.dp rx
      obtain ⟨bs, r2⟩ := Dp.reads I _ y u hy.dp ry
      exact SeqAt.in_list_reads r2 r1 hy.lay hx.lay (by omega) ⟨.bl _, H, I, rfl, ans_d S hz (.bl _)⟩
    · cases hc
  · unfold inAll at hc
    split at hc
    · rename_i hd
      cases hc
      obtain ⟨as, r1⟩ := Dp.reads I _ x v hx.dp rx
      obtain ⟨bs, r2⟩ := Dp.reads I _ y u hy.dp ry
      exact SeqAt.in_tuple_reads r2 r1 hy.lay hx.lay (by omega) ⟨.bl _, H, I, rfl, ans_d S hz (.bl _)⟩
    · cases hc
  · cases hc
theorem or_notin (hu : X.A.units + 200 < cLine) : OpR X (compareOp .NotIn) (rOp X.K (cmpR .notin)) := by
  intro pins s σ H x y v u Q I rx ry q
  obtain ⟨m, g, dx, dy, S, hx, hy, hz⟩ := q
  obtain ⟨c, hc, hz⟩ := Rz.optBind hz
  simp only [cmp, Option.map_eq_some_iff] at hc
  obtain ⟨c', hc, rfl⟩ := hc
  unfold inD at hc
  split at hc
  · cases hc
    have e1 := hx.str; have e2 := hy.str; subst e1 e2
    exact op_notin_str pins s σ H _ _ v u Q I rx ry ⟨_, _, rfl, rfl, ans_d S hz (.bl _)⟩
  · unfold inAll at hc
    split at hc
    · rename_i hd
      cases hc
      obtain ⟨as, r1⟩ := Dp.reads I _ x v hx.dp rx
      obtain ⟨bs, r2⟩ := Dp.reads I _ y u hy.dp ry
      exact SeqAt.notIn_list_reads r2 r1 hy.lay hx.lay (by omega) ⟨.bl _, H, I, rfl, ans_d S hz (.bl _)⟩
    · cases hc
  · unfold inAll at hc
    split at hc
    · rename_i hd
      cases hc
      obtain ⟨as, r1⟩ := Dp.reads I _ x v hx.dp rx
      obtain ⟨bs, r2⟩ := Dp.reads I _ y u hy.dp ry
      exact SeqAt.notIn_tuple_reads r2 r1 hy.lay hx.lay (by omega) ⟨.bl _, H, I, rfl, ans_d S hz (.bl _)⟩
    · cases hc
  · cases hc
end
end Ra


set_option Elab.async false
set_option linter.all false
set_option autoImplicit false
set_option maxRecDepth 100000
/-! expressions by the evaluator -/
namespace Ra
open PySem PySem.Spec PyProof.Rows L2
def notStar : Expr → Bool
  | .Starred _ _ => false
  | _ => true
theorem star1 {e : Expr} (h : notStar e = true) (es : List Expr) (env : PySem.Env) : starEach (e :: es) env = (false, eval e env) :: starEach es env := by
  cases e <;> first | rfl | (cases h; done)
theorem star_plain (env : PySem.Env) (pos : Pos) : ∀ (es : List Expr), es.all notStar = true → (backTo pos (starEach es env)).any (·.1) = false
  | [], _ => rfl
  | e :: es, h => by
    obtain ⟨h1, h2⟩ := Bool.and_eq_true_iff.mp (show (notStar e && es.all notStar) = true from h)
    rw [star1 h1]
    have ih := star_plain env pos es h2
    simp only [backTo, List.map_cons, List.any_cons] at ih ⊢
    simpa using ih
section
variable {X : Cx} {e : Expr} {es : List Expr} {p : P} {ps : List P} {pos : Pos}
theorem pa_items_nil : PA X [] (tIt X.K (cItems [])) := PA.weak pa_nil fun σ H Q ⟨env, m, g, hs, hm, hz⟩ => Rz.ok_now hz hm [] .nil
theorem pa_items_cons (ha : PE X e (tE X.K p.v)) (hr : PA X es (tIt X.K (cItems ps))) (ns : notStar e = true) : PA X (e :: es) (tIt X.K (cItems (p :: ps))) := by
  refine PA.weak (pa_cons ha hr (star1 ns _ _)) fun σ H Q ⟨env, m, g, hs, hm, hz⟩ => ?_
  refine ⟨env, m, g, hs, hm, (Rz.bind hz).mono fun v m1 g1 H1 e1 s1 z1 x rx => ?_⟩
  cases hf : frz v m1 with
  | fail => rw [hf] at z1; exact z1.elim
  | exc a b => rw [hf] at z1; exact z1.elim
  | ok d m2 =>
    rw [hf, Res.bind_ok] at z1
    obtain ⟨g2, s2, e2, r2⟩ := s1.frz rx hf
    refine ⟨env, m2, g2, (hs.ext e1).ext e2, s2, (Rz.bind (z1.ext e2)).mono fun ds m3 g3 H3 e3 s3 z3 xs rxs => ?_⟩
    exact Rz.ok_now z3 s3 (x :: xs) (.cons (Rp.ext e3 _ r2) rxs)
theorem pa_args_nil : PA X [] (tAr X.K (cArgs [])) := PA.weak pa_nil fun σ H Q ⟨env, m, g, hs, hm, hz⟩ => Rz.ok_now hz hm [] .nil
theorem pa_args_cons (ha : PE X e (tE X.K p.v)) (hr : PA X es (tAr X.K (cArgs ps))) (ns : notStar e = true) : PA X (e :: es) (tAr X.K (cArgs (p :: ps))) := by
  refine PA.weak (pa_cons ha hr (star1 ns _ _)) fun σ H Q ⟨env, m, g, hs, hm, hz⟩ => ?_
  refine ⟨env, m, g, hs, hm, (Rz.bind hz).mono fun v m1 g1 H1 e1 s1 z1 x rx => ?_⟩
  obtain ⟨g2, s2, e2, r2⟩ := s1.hold rx
  refine ⟨env, m1, g2, (hs.ext e1).ext e2, s2, (Rz.bind (z1.ext e2)).mono fun vs m3 g3 H3 e3 s3 z3 xs rxs => ?_⟩
  exact Rz.ok_now z3 s3 (x :: xs) (.cons (r2.ext e3 (nf_ne v)) (nf_ne v) rxs)
/-- the display of so many items is within the line -/
theorem items_len : ∀ (ps : List P) {env : Env} {m : Mem} {ds : List PyData} {m' : Mem}, cItems ps env m = .ok ds m' → ds.length = ps.length
  | [], env, m, ds, m', h => by
    simp only [cItems, Res.ok.injEq] at h
    rw [← h.1]; rfl
  | p :: ps, env, m, ds, m', h => by
    simp only [cItems] at h
    cases h1 : p.v env m with
    | fail => rw [h1] at h; simp at h
    | exc a b => rw [h1] at h; simp at h
    | ok v m1 =>
      rw [h1] at h; simp only [Res.bind_ok] at h
      cases h2 : frz v m1 with
      | fail => rw [h2] at h; simp at h
      | exc a b => rw [h2] at h; simp at h
      | ok d m2 =>
        rw [h2] at h; simp only [Res.bind_ok] at h
        cases h3 : cItems ps env m2 with
        | fail => rw [h3] at h; simp at h
        | exc a b => rw [h3] at h; simp at h
        | ok ds' m3 =>
          rw [h3] at h; simp only [Res.bind_ok, Res.ok.injEq] at h
          rw [← h.1, List.length_cons, items_len ps h3, List.length_cons]
theorem tup_ok {σ : L2.St} {H : Hp} {Q : VK} (hl : ps.length ≤ 1000) (h : tE X.K (cTup ps) σ H Q) : tTup (tIt X.K (cItems ps)) σ H Q := by
  obtain ⟨env, m, g, hs, hm, hz⟩ := h
  have hz' := Rz.bind hz
  refine ⟨env, m, g, hs, hm, ?_⟩
  cases h1 : cItems ps env m with
  | fail => rw [h1] at hz'; exact hz'.elim
  | exc a b => rw [h1] at hz'; exact hz'.elim
  | ok ds m1 =>
    rw [h1] at hz'
    intro g1 H1 e1 s1 xs rxs
    have hlen : xs.length ≤ sizeLine := by
      rw [rxs.length, items_len ps h1, sizeLine_eq]; omega
    exact ⟨hlen, fun q hq => ans_t s1 (hz' g1 H1 e1 s1) rxs hlen hq⟩
theorem lst_ok {σ : L2.St} {H : Hp} {Q : VK} (hl : ps.length ≤ 1000) (h : tE X.K (cLst ps) σ H Q) : tLst (tIt X.K (cItems ps)) σ H Q := by
  obtain ⟨env, m, g, hs, hm, hz⟩ := h
  have hz' := Rz.bind hz
  refine ⟨env, m, g, hs, hm, ?_⟩
  cases h1 : cItems ps env m with
  | fail => rw [h1] at hz'; exact hz'.elim
  | exc a b => rw [h1] at hz'; exact hz'.elim
  | ok ds m1 =>
    rw [h1] at hz'
    intro g1 H1 e1 s1 xs rxs
    have hlen : xs.length ≤ sizeLine := by
      rw [rxs.length, items_len ps h1, sizeLine_eq]; omega
    exact ⟨hlen, fun q hq => ans_l s1 (hz' g1 H1 e1 s1) rxs hlen hq⟩
theorem pe_tupR {k : Nat} (h : PA X es (tIt X.K (cItems ps))) (hl : ps.length ≤ 1000) : PE X (.Tuple es k pos) (tE X.K (cTup ps)) := PE.weak (pe_tup h) fun _ _ _ q => tup_ok hl q
theorem pe_lstR (h : PA X es (tIt X.K (cItems ps))) (hl : ps.length ≤ 1000) : PE X (.List es pos) (tE X.K (cLst ps)) := PE.weak (pe_lst h) fun _ _ _ q => lst_ok hl q
/-! truth -/
theorem tru_of {K : PySem.W.Frag} {F : Addr → Prop} {H : Hp} {x : V} {d : PyData} {b : Bool} (h : Rr K F H x d) (e : truth d = some b) : TruV K x H b := by
  cases d with
  | none => rw [h.none]; exact (Option.some.inj e).symm
  | bool c => rw [h.bool]; exact (Option.some.inj e).symm
  | int i => rw [h.int]; exact (Option.some.inj e).symm
  | str z =>
    have hz := sok_len h.sok
    rw [h.str]
    have hi : (z.length != 0) = ((z.length : Int) != 0) := by cases z.length <;> rfl
    exact ⟨hz, by rw [← hi]; exact (Option.some.inj e).symm⟩
  | list xs =>
    obtain ⟨a, vs, rfl, h1, h2⟩ := h.lst
    have hl := h2.length
    refine .inl ⟨vs, .inl h1, ?_⟩
    rw [← Option.some.inj e]
    cases vs <;> cases xs <;> simp_all
  | tuple xs =>
    obtain ⟨a, vs, rfl, h1, h2⟩ := h.tup
    have hl := h2.length
    refine .inr (.inl ⟨vs, h1, ?_⟩)
    rw [← Option.some.inj e]
    cases vs <;> cases xs <;> simp_all
  | dict _ => cases e
theorem truR_ok {K : PySem.W.Frag} {m : Mem} {g : G} {H : Hp} {x : V} {v : Val} {β : Type} {f : Bool → Mem → Res β} {Q : β → Mem → G → Hp → Prop} (S : SimM K m g H) (h : RpV K g H x v) (hz : Rz K ((truR v m).bind f) g H Q) :
    ∃ b, TruV K x H b ∧ Rz K (f b m) g H Q := by
  obtain ⟨g', s', e', r'⟩ := S.hold h
  unfold truR at hz
  cases h1 : rd m v with
  | none => rw [rdR, h1] at hz; exact hz.elim
  | some d =>
    rw [rdR, h1] at hz
    simp only [optR_some, Res.bind_ok] at hz
    obtain ⟨b, hb, hz⟩ := Rz.optBind hz
    have h2 : rd m v.nf = some d := by
      cases v <;> exact h1
    exact ⟨b, tru_of (s'.read (nf_ne v) r' h2) hb, hz⟩
/-- a plain expression as a test -/
theorem pt_R (ha : PE X e (tE X.K p.v)) (he : ∀ whole, isTrue e X.env whole = (do let v ← whole; standAt e.pos; holding [v] (truthy v))) (hp : p.t = (ofV p.v).t) : PT X e (tT X.K p.t) := by
  refine PT.weak (pt_truth ha he) fun σ H Q ⟨env, m, g, hs, hm, hz⟩ => ?_
  rw [hp] at hz
  refine ⟨env, m, g, hs, hm, (Rz.bind hz).mono fun v m1 g1 H1 e1 s1 z1 x rx => ?_⟩
  have z2 : Rz X.K ((truR v m1).bind fun b m2 => .ok b m2) g1 H1 fun b _ _ H' => Q b H' := by
    have : (truR v m1).bind (fun b m2 => Res.ok b m2) = truR v m1 := by
      cases truR v m1 <;> rfl
    rw [this]; exact z1
  obtain ⟨b, hb, z3⟩ := truR_ok s1 rx z2
  exact ⟨b, hb, Rz.ok_now z3 s1⟩
/-! and, or, not, if -/
theorem pe_andR1 (ha : PE X e (tE X.K p.v)) : PE X (.BoolOp .And [e] pos) (tE X.K (cAnd [p])) := pe_one ha
theorem pe_orR1 (ha : PE X e (tE X.K p.v)) : PE X (.BoolOp .Or [e] pos) (tE X.K (cOr [p])) := pe_one ha
theorem pe_andR {e' : Expr} {p' : P} (ha : PE X e (tE X.K p.v)) (hb : PE X (.BoolOp .And (e' :: es) pos) (tE X.K (cAnd (p' :: ps)))) : PE X (.BoolOp .And (e :: e' :: es) pos) (tE X.K (cAnd (p :: p' :: ps))) := by
  refine PE.weak (pe_andT ha hb) fun σ H Q ⟨env, m, g, hs, hm, hz⟩ => ?_
  refine ⟨env, m, g, hs, hm, (Rz.bind hz).mono fun v m1 g1 H1 e1 s1 z1 x rx => ?_⟩
  obtain ⟨b, hb, z2⟩ := truR_ok s1 rx z1
  refine ⟨b, hb, ?_⟩
  cases b with
  | true => exact ⟨env, m1, g1, hs.ext e1, s1, z2⟩
  | false => exact Rz.ok_now z2 s1 x rx
theorem pe_orR {e' : Expr} {p' : P} (ha : PE X e (tE X.K p.v)) (hb : PE X (.BoolOp .Or (e' :: es) pos) (tE X.K (cOr (p' :: ps)))) : PE X (.BoolOp .Or (e :: e' :: es) pos) (tE X.K (cOr (p :: p' :: ps))) := by
  refine PE.weak (pe_orT ha hb) fun σ H Q ⟨env, m, g, hs, hm, hz⟩ => ?_
  refine ⟨env, m, g, hs, hm, (Rz.bind hz).mono fun v m1 g1 H1 e1 s1 z1 x rx => ?_⟩
  obtain ⟨b, hb, z2⟩ := truR_ok s1 rx z1
  refine ⟨b, hb, ?_⟩
  cases b with
  | true => exact Rz.ok_now z2 s1 x rx
  | false => exact ⟨env, m1, g1, hs.ext e1, s1, z2⟩
theorem pw_andR1 (ha : PT X e (tT X.K p.t)) : PW X (.BoolOp .And [e] pos) (tT X.K (tAnd [p])) := pw_and1 ha
theorem pw_orR1 (ha : PT X e (tT X.K p.t)) : PW X (.BoolOp .Or [e] pos) (tT X.K (tOr [p])) := pw_or1 ha
theorem pw_andR {e' : Expr} {p' : P} (ha : PT X e (tT X.K p.t)) (hb : PW X (.BoolOp .And (e' :: es) pos) (tT X.K (tAnd (p' :: ps)))) : PW X (.BoolOp .And (e :: e' :: es) pos) (tT X.K (tAnd (p :: p' :: ps))) := by
  refine PW.weak (pw_and ha hb) fun σ H Q ⟨env, m, g, hs, hm, hz⟩ => ?_
  refine ⟨env, m, g, hs, hm, (Rz.bind hz).mono fun b m1 g1 H1 e1 s1 z1 => ?_⟩
  cases b with
  | true => exact ⟨env, m1, g1, hs.ext e1, s1, z1⟩
  | false => exact Rz.ok_now z1 s1
theorem pw_orR {e' : Expr} {p' : P} (ha : PT X e (tT X.K p.t)) (hb : PW X (.BoolOp .Or (e' :: es) pos) (tT X.K (tOr (p' :: ps)))) : PW X (.BoolOp .Or (e :: e' :: es) pos) (tT X.K (tOr (p :: p' :: ps))) := by
  refine PW.weak (pw_or ha hb) fun σ H Q ⟨env, m, g, hs, hm, hz⟩ => ?_
  refine ⟨env, m, g, hs, hm, (Rz.bind hz).mono fun b m1 g1 H1 e1 s1 z1 => ?_⟩
  cases b with
  | true => exact Rz.ok_now z1 s1
  | false => exact ⟨env, m1, g1, hs.ext e1, s1, z1⟩
theorem pe_notR (ha : PE X e (tE X.K p.v)) : PE X (.UnaryOp .Not e pos) (tE X.K fun env m => (p.v env m).bind fun v m1 => (truR v m1).bind fun t m2 => boolR (!t) m2) := by
  refine PE.weak (pe_notT ha) fun σ H Q ⟨env, m, g, hs, hm, hz⟩ => ?_
  refine ⟨env, m, g, hs, hm, (Rz.bind hz).mono fun v m1 g1 H1 e1 s1 z1 x rx => ?_⟩
  obtain ⟨b, hb, z2⟩ := truR_ok s1 rx z1
  exact ⟨b, hb, ans_d s1 z2 (.bl _)⟩
theorem pt_notR (ha : PT X e (tT X.K p.t)) : PT X (.UnaryOp .Not e pos) (tT X.K fun env m => (p.t env m).bind fun t m1 => .ok (!t) m1) := by
  refine PT.weak (pt_not ha) fun σ H Q ⟨env, m, g, hs, hm, hz⟩ => ?_
  exact ⟨env, m, g, hs, hm, (Rz.bind hz).mono fun b m1 g1 H1 e1 s1 z1 => Rz.ok_now z1 s1⟩
theorem pe_iteR {c a b : Expr} {pc pa pb : P} (hc : PT X c (tT X.K pc.t)) (ha : PE X a (tE X.K pa.v)) (hb : PE X b (tE X.K pb.v)) :
    PE X (.IfExp c a b pos) (tE X.K fun env m => (pc.t env m).bind fun t m1 => if t = true then pa.v env m1 else pb.v env m1) := by
  refine PE.weak (pe_ifExp hc ha hb) fun σ H Q ⟨env, m, g, hs, hm, hz⟩ => ?_
  refine ⟨env, m, g, hs, hm, (Rz.bind hz).mono fun b m1 g1 H1 e1 s1 z1 => ?_⟩
  cases b with
  | true => exact ⟨env, m1, g1, hs.ext e1, s1, z1⟩
  | false => exact ⟨env, m1, g1, hs.ext e1, s1, z1⟩
/-- comparisons -/
theorem pe_cmpE {a b : Expr} {op : CmpOp} {o : Cop} {pa pb : P} (ho : OpR X (compareOp op) (rOp X.K (cmpR o))) (hm : behindInMarks op b = false) (ha : PE X a (tE X.K pa.v)) (hb : PE X b (tE X.K pb.v)) :
    PE X (.Compare a [op] [b] pos) (tE X.K (c2 pa pb (cmpR o))) := PE.weak (pe_cmpR ho ha hb hm) fun _ _ _ h => c2_ok h
theorem c2_bool {K : PySem.W.Frag} {pa pb : P} {o : Cop} {σ : L2.St} {H : Hp} {Q : Bool → Hp → Prop} (h : tT K (ofV (c2 pa pb (cmpR o))).t σ H Q) :
    tE K (c2 pa pb (cmpR o)) σ H fun x H' => ∃ k, x = .bl k ∧ Q k H' := by
  obtain ⟨env, m, g, hs, hm, hz⟩ := h
  refine ⟨env, m, g, hs, hm, ?_⟩
  have key : ∀ r : Res Val, (∃ (q : Res Bool), r = q.bind boolR) → Rz K (r.bind truR) g H (fun b _ _ H' => Q b H') → Rz K r g H fun v _ g' H' => ∀ x, RpV K g' H' x v → ∃ k, x = .bl k ∧ Q k H' := by
    rintro _ ⟨q, rfl⟩ z
    cases q with
    | fail => exact z.elim
    | exc a b => exact z.elim
    | ok c m1 =>
      intro g1 H1 e1 s1 x rx
      cases rx
      exact ⟨c, rfl, z g1 H1 e1 s1⟩
  refine key _ ?_ hz
  unfold c2
  cases pa.v env m with
  | fail => exact ⟨.fail, rfl⟩
  | exc a b => exact ⟨.exc a b, rfl⟩
  | ok va m1 =>
    simp only [Res.bind_ok]
    cases pb.v env m1 with
    | fail => exact ⟨.fail, rfl⟩
    | exc a b => exact ⟨.exc a b, rfl⟩
    | ok vb m2 =>
      simp only [Res.bind_ok, rdR]
      cases rd m2 va.nf with
      | none => exact ⟨.fail, rfl⟩
      | some x =>
        simp only [optR_some, Res.bind_ok]
        cases rd m2 vb.nf with
        | none => exact ⟨.fail, rfl⟩
        | some y => exact ⟨_, rfl⟩
theorem pt_cmpE {a b : Expr} {op : CmpOp} {o : Cop} {pa pb : P} (ho : OpR X (compareOp op) (rOp X.K (cmpR o))) (hm : behindInMarks op b = false) (ha : PE X a (tE X.K pa.v)) (hb : PE X b (tE X.K pb.v)) :
    PT X (.Compare a [op] [b] pos) (tT X.K (ofV (c2 pa pb (cmpR o))).t) :=
  PT.weak (pt_cmpR ho ha hb hm) fun _ _ _ h => c2_ok (c2_bool h)
end
end Ra


set_option Elab.async false
set_option linter.all false
set_option autoImplicit false
set_option maxRecDepth 100000
/-! expressions by the evaluator: subscripts, calls -/
namespace Ra
open PySem PySem.Spec PyProof.Rows L2
section
variable {X : Cx} {e : Expr} {es : List Expr} {p : P} {ps : List P} {pos : Pos}
theorem pe_badR (e : Expr) : PE X e (tE X.K fun _ _ => .fail) := ⟨fun pins s σ H Q I ⟨env, m, g, hs, hm, hz⟩ => hz.elim⟩
theorem pe_varR {i : Nat} {x : Str} (hN : X.N[i]? = some x) (hv : Vis X.env.scope x) (hd : (x == ("__debug__" : Str)) = false) (hcd : (x == ("__classdict__" : Str)) = false) : PE X (.Name x pos) (tE X.K fun env m => optR (getV env i) m) := by
  refine PE.weak (pe_var hN hv hd hcd) fun σ H Q ⟨env, m, g, hs, hm, hz⟩ => ?_
  obtain ⟨v, hv', hz⟩ := Rz.opt hz
  obtain ⟨y, h1, h2, h3⟩ := hs.at_ i v hv'
  exact ⟨y, h1, Rz.ok_now hz hm y h2⟩
theorem cst_ok {v : V} {d : PyData} (h : ∀ F H, Rp X.K F H v d) (he : PE X e (tC v)) : PE X e (tE X.K fun _ m => .ok (.d d) m) :=
  PE.weak he fun σ H Q ⟨env, m, g, hs, hm, hz⟩ => Rz.ok_now hz hm v (h _ _)
/-- a value that holds no list -/
def flatD : PyData → Option V
  | .none => some .non
  | .bool b => some (.bl b)
  | .int i => some (.int i)
  | .str s => if sOk s = true then some (.str s) else none
  | _ => none
theorem flat_rp {K : PySem.W.Frag} {d : PyData} {v : V} (h : flatD d = some v) (F : Addr → Prop) (H : Hp) : Rp K F H v d := by
  cases d with
  | none => cases h; exact .non
  | bool b => cases h; exact .bl b
  | int i => cases h; exact .int i
  | str s =>
    simp only [flatD] at h
    split at h
    · rename_i hs
      cases h; exact .str s hs
    · cases h
  | list _ => cases h
  | tuple _ => cases h
  | dict _ => cases h
/-! chains -/
theorem chain_ok {K : PySem.W.Frag} {pa pb pc : P} {o o' : Cop} {σ : L2.St} {H : Hp} {Q : VK} (h : tE K (cChain o o' pa pb pc) σ H Q) :
    tChain (rOp K (cmpR o)) (rOp K (cmpR o')) (tE K pa.v) (tE K pb.v) (tE K pc.v) σ H Q := by
  obtain ⟨env, m, g, hs, hm, hz⟩ := h
  refine ⟨env, m, g, hs, hm, (Rz.bind hz).mono fun va m1 g1 H1 e1 s1 z1 x rx => ?_⟩
  obtain ⟨g1', s1', e1', rx'⟩ := s1.hold rx
  refine ⟨env, m1, g1', (hs.ext e1).ext e1', s1', (Rz.bind (z1.ext e1')).mono fun vb m2 g2 H2 e2 s2 z2 y ry => ?_⟩
  obtain ⟨g2', s2', e2', ry'⟩ := s2.hold ry
  obtain ⟨dx, hx, z3⟩ := Rz.rdBind (z2.ext e2')
  obtain ⟨dy, hy, z4⟩ := Rz.rdBind z3
  obtain ⟨t, ht, z5⟩ := Rz.optBind z4
  have hs2 : Sg K env σ g2' H2 := (((hs.ext e1).ext e1').ext e2).ext e2'
  refine ⟨m2, g2', dx, dy, s2', s2'.read (nf_ne va) (RpV.ext (e2.trans e2') (nf_ne va) rx') hx, s2'.read (nf_ne vb) ry' hy, ?_⟩
  unfold cmpR
  rw [ht]
  intro g3 H3 e3 s3 z rz
  cases rz
  refine ⟨t, rfl, ?_⟩
  cases t with
  | false => exact ans_d s3 (z5.ext e3) (.bl false)
  | true =>
    simp only [if_true] at z5 ⊢
    refine ⟨env, m2, g3, hs2.ext e3, s3, (Rz.bind (z5.ext e3)).mono fun vc m6 g6 H6 e6 s6 z6 w rw_ => ?_⟩
    obtain ⟨g7, s7, e7, rw7⟩ := s6.hold rw_
    obtain ⟨dy', hy', z7⟩ := Rz.rdBind (z6.ext e7)
    obtain ⟨dz, hz', z8⟩ := Rz.rdBind z7
    exact ⟨m6, g7, dy', dz, s7, s7.read (nf_ne vb) (RpV.ext ((e3.trans e6).trans e7) (nf_ne vb) ry') hy', s7.read (nf_ne vc) rw7 hz', z8⟩
theorem pe_chainE {a b c : Expr} {op op' : CmpOp} {o o' : Cop} {pa pb pc : P} (ho : OpR X (compareOp op) (rOp X.K (cmpR o))) (ho' : OpR X (compareOp op') (rOp X.K (cmpR o'))) (hm : lastMarks [op, op'] [b, c] = false)
    (ha : PE X a (tE X.K pa.v)) (hb : PE X b (tE X.K pb.v)) (hc : PE X c (tE X.K pc.v)) : PE X (.Compare a [op, op'] [b, c] pos) (tE X.K (cChain o o' pa pb pc)) :=
  PE.weak (pe_chain ho ho' ha hb hc hm) fun _ _ _ h => chain_ok h
/-! is None, minus -/
theorem none_iff {K : PySem.W.Frag} {F : Addr → Prop} {H : Hp} {x : V} {d : PyData} (h : Rr K F H x d) : isNone d = decide (x = .non) := by
  cases d with
  | none => rw [h.none]; rfl
  | bool b => rw [h.bool]; rfl
  | int b => rw [h.int]; rfl
  | str b => rw [h.str]; rfl
  | list b => obtain ⟨a, xs, rfl, _⟩ := h.lst; rfl
  | tuple b => obtain ⟨a, xs, rfl, _⟩ := h.tup; rfl
  | dict b => cases h
theorem pe_isNR {a : Expr} {k : Nat} {q : Pos} (ha : PE X a (tE X.K p.v)) : PE X (.Compare a [.Is] [.Constant .none k q] pos) (tE X.K (c1 p fun x m => boolR (isNone x) m)) := by
  refine PE.weak (pe_cmpR op_isN ha pe_non (nomark _)) fun σ H Q h => ?_
  obtain ⟨env, m, g, hs, hm, hz⟩ := c1_ok h
  refine ⟨env, m, g, hs, hm, hz.mono fun v m1 g1 H1 e1 s1 z1 x rx => ⟨rfl, ?_⟩⟩
  obtain ⟨m2, g2, d, s2, r2, z2⟩ := z1 x rx
  rw [← none_iff r2]
  exact ans_d s2 z2 (.bl _)
theorem pe_isnNR {a : Expr} {k : Nat} {q : Pos} (ha : PE X a (tE X.K p.v)) : PE X (.Compare a [.IsNot] [.Constant .none k q] pos) (tE X.K (c1 p fun x m => boolR (!isNone x) m)) := by
  refine PE.weak (pe_cmpR op_notN ha pe_non (nomark _)) fun σ H Q h => ?_
  obtain ⟨env, m, g, hs, hm, hz⟩ := c1_ok h
  refine ⟨env, m, g, hs, hm, hz.mono fun v m1 g1 H1 e1 s1 z1 x rx => ⟨rfl, ?_⟩⟩
  obtain ⟨m2, g2, d, s2, r2, z2⟩ := z1 x rx
  rw [← none_iff r2]
  exact ans_d s2 z2 (.bl _)
theorem pe_negR {a : Expr} (ha : PE X a (tE X.K p.v)) : PE X (.UnaryOp .USub a pos) (tE X.K (c1 p fun x m => match x with
      | .int i => .ok (.d (.int (-i))) m
      | _ => .fail)) := by
  refine PE.weak (pe_un un_neg ha) fun σ H Q h => ?_
  obtain ⟨env, m, g, hs, hm, hz⟩ := c1_ok h
  refine ⟨env, m, g, hs, hm, hz.mono fun v m1 g1 H1 e1 s1 z1 x rx => ?_⟩
  obtain ⟨m2, g2, d, s2, r2, z2⟩ := z1 x rx
  cases d with
  | int i => exact ⟨i, r2.int, ans_d s2 z2 (.int _)⟩
  | none => exact z2.elim
  | bool _ => exact z2.elim
  | str _ => exact z2.elim
  | list _ => exact z2.elim
  | tuple _ => exact z2.elim
  | dict _ => exact z2.elim
/-! subscripts -/
theorem RpAll.atI {K : PySem.W.Frag} {F : Addr → Prop} {H : Hp} {xs : List V} {ds : List PyData} {i : Int} {d : PyData} (h : RpAll K F H xs ds) (e : L2.atI ds i = some d) : ∃ x, L2.atI xs i = some x ∧ Rp K F H x d := by
  unfold L2.atI at e ⊢
  rw [h.length]
  cases hj : ixN ds.length i with
  | none => rw [hj] at e; cases e
  | some j =>
    rw [hj] at e
    exact h.get e
theorem sok_one {z : Str} {c : Nat} (h : sOk z = true) (hc : c ∈ z.cps.toList) : sOk ⟨#[c]⟩ = true := by
  obtain ⟨a, _⟩ := Bool.and_eq_true_iff.mp h
  refine Bool.and_eq_true_iff.mpr ⟨?_, rfl⟩
  have := (Array.all_eq_true'.mp a) c (by simpa using hc)
  show (#[c].all (· < 0x110000)) = true
  simpa using this
theorem atI_mem {α : Type} {xs : List α} {i : Int} {c : α} (h : L2.atI xs i = some c) : c ∈ xs := by
  unfold L2.atI at h
  cases hj : ixN xs.length i with
  | none => rw [hj] at h; cases h
  | some j =>
    rw [hj] at h
    exact List.mem_of_getElem? h
theorem ix_R : IxR X (rOp X.K fun x y m => (optR (idx x y) m).bind fun z m1 => .ok (.d z) m1) := by
  intro value slice pins s σ H x y v u Q I rx ry h hs
  refine ix_seq value slice pins s σ H x y v u Q I rx ry ?_ hs
  obtain ⟨m, g, dx, dy, S, hx, hy, hz0⟩ := h
  obtain ⟨w, hw, hz⟩ := Rz.optBind hz0
  clear hz0
  unfold idx at hw
  split at hw
  · obtain ⟨a, vs, rfl, h1, h2⟩ := hx.lst
    obtain ⟨z, e1, e2⟩ := h2.atI hw
    exact .inl ⟨a, vs, _, z, rfl, hy.int, .inl h1, e1, ans_d S hz e2⟩
  · obtain ⟨a, vs, rfl, h1, h2⟩ := hx.tup
    obtain ⟨z, e1, e2⟩ := h2.atI hw
    exact .inr (.inl ⟨a, vs, _, z, rfl, hy.int, h1, e1, ans_d S hz e2⟩)
  · rename_i zs i
    obtain ⟨c, e1, e2⟩ := Option.map_eq_some_iff.mp hw
    subst e2
    exact .inr (.inr ⟨zs, i, c, hx.str, hy.int, sok_len hx.sok, e1, ans_d S hz (.str _ (sok_one hx.sok (atI_mem e1)))⟩)
  · cases hw
def notSlice : Expr → Bool
  | .Slice _ _ _ _ => false
  | _ => true
theorem plain_ix {b : Expr} (h : notSlice b = true) : PlainIx b := fun o i => by
  cases b <;> first | rfl | (cases h; done)
theorem pe_idxR {a b : Expr} {pa pb : P} (ha : PE X a (tE X.K pa.v)) (hb : PE X b (tE X.K pb.v)) (h : notSlice b = true) : PE X (.Subscript a b pos) (tE X.K (c2 pa pb fun x y m => (optR (idx x y) m).bind fun z m1 => .ok (.d z) m1)) :=
  PE.weak (pe_ix ix_R ha hb (plain_ix h)) fun _ _ _ q => c2_ok q
theorem RpAll.cut {K : PySem.W.Frag} {F : Addr → Prop} {H : Hp} {xs : List V} {ds : List PyData} (h : RpAll K F H xs ds) (lo hi : Option Int) : RpAll K F H (cutV xs lo hi) (cut ds lo hi) := by
  unfold cutV Ra.cut
  rw [h.length]
  exact (h.drop _).take _
theorem cut_whole {α : Type} {xs : List α} {lo hi : Option Int} (h : HT.sIx xs.length 0 lo = 0 ∧ HT.sIx xs.length xs.length hi = xs.length) : cut xs lo hi = xs := by
  unfold cut
  rw [h.1, h.2, List.drop_zero, Nat.sub_zero, List.take_length]
theorem sl_R : SlR X (fun x lo hi H Q => ∃ m g dx, SimM X.K m g H ∧ Rr X.K g.F H x dx ∧ Rz X.K (optR (slc dx lo hi) m) g H (Ans X.K Q)) := by
  intro pins s σ H x v vl vu lo hi sl Q I rx hs pl pu h
  obtain ⟨m, g, dx, S, hx, hz⟩ := h
  obtain ⟨w, hw, hz⟩ := Rz.opt hz
  unfold slc at hw
  split at hw
  · cases hw
    obtain ⟨a, vs, rfl, h1, h2⟩ := hx.lst
    obtain ⟨hl, _⟩ := lstR I h1
    exact sl_list pins s σ H _ v vl vu lo hi sl Q I rx hs pl pu ⟨a, vs, rfl, .inl h1, fun q hq => ans_l S hz (h2.cut lo hi) (Nat.le_trans (cutV_length vs lo hi) hl) hq⟩
  · cases hw
    obtain ⟨a, vs, rfl, h1, h2⟩ := hx.tup
    obtain ⟨its, _, _, hl⟩ := I.tuple h1
    refine sl_tupA pins s σ H _ v vl vu lo hi sl Q I rx hs pl pu ⟨a, vs, rfl, h1, fun hw => ?_, fun _ q hq => ans_t S hz (h2.cut lo hi) (Nat.le_trans (cutV_length vs lo hi) hl) hq⟩
    rw [h2.length] at hw
    rw [cut_whole hw] at hz
    exact ans_d S hz (.tup h1 h2)
  · cases hw
theorem pe_slR {a : Expr} {q : Pos} (ha : PE X a (tE X.K p.v)) : PE X (.Subscript a (.Slice none none none q) pos) (tE X.K (c1 p fun x m => optR (slc x none none) m)) := by
  refine PE.weak (pe_slice sl_R ha po_none po_none) fun σ H Q h => ?_
  exact c1_ok h
theorem pe_slLR {a b : Expr} {pa pb : P} {q : Pos} (ha : PE X a (tE X.K pa.v)) (hb : PE X b (tE X.K pb.v)) : PE X (.Subscript a (.Slice (some b) none none q) pos) (tE X.K (c2 pa pb fun x l m => match l with
      | .int l => optR (slc x (some l) none) m
      | _ => .fail)) := by
  refine PE.weak (pe_slice sl_R ha (po_some hb) po_none) fun σ H Q h => ?_
  obtain ⟨env, m, g, hs, hm, hz⟩ := c2_ok h
  refine ⟨env, m, g, hs, hm, hz.mono fun v m1 g1 H1 e1 s1 z1 x rx => ?_⟩
  obtain ⟨env2, m2, g2, hs2, hm2, hz2⟩ := z1 x rx
  refine ⟨env2, m2, g2, hs2, hm2, hz2.mono fun v3 m3 g3 H3 e3 s3 z3 y ry => ?_⟩
  obtain ⟨m4, g4, dx, dy, s4, rx4, ry4, z4⟩ := z3 y ry
  cases dy with
  | int i => exact ⟨i, ry4.int, m4, g4, dx, s4, rx4, z4⟩
  | none => exact z4.elim
  | bool _ => exact z4.elim
  | str _ => exact z4.elim
  | list _ => exact z4.elim
  | tuple _ => exact z4.elim
  | dict _ => exact z4.elim
theorem pe_slUR {a b : Expr} {pa pb : P} {q : Pos} (ha : PE X a (tE X.K pa.v)) (hb : PE X b (tE X.K pb.v)) : PE X (.Subscript a (.Slice none (some b) none q) pos) (tE X.K (c2 pa pb fun x h m => match h with
      | .int h => optR (slc x none (some h)) m
      | _ => .fail)) := by
  refine PE.weak (pe_slice sl_R ha po_none (po_some hb)) fun σ H Q h => ?_
  obtain ⟨env, m, g, hs, hm, hz⟩ := c2_ok h
  refine ⟨env, m, g, hs, hm, hz.mono fun v m1 g1 H1 e1 s1 z1 x rx => ?_⟩
  obtain ⟨env2, m2, g2, hs2, hm2, hz2⟩ := z1 x rx
  refine ⟨env2, m2, g2, hs2, hm2, hz2.mono fun v3 m3 g3 H3 e3 s3 z3 y ry => ?_⟩
  obtain ⟨m4, g4, dx, dy, s4, rx4, ry4, z4⟩ := z3 y ry
  cases dy with
  | int i => exact ⟨i, ry4.int, m4, g4, dx, s4, rx4, z4⟩
  | none => exact z4.elim
  | bool _ => exact z4.elim
  | str _ => exact z4.elim
  | list _ => exact z4.elim
  | tuple _ => exact z4.elim
  | dict _ => exact z4.elim
theorem intBind {K : PySem.W.Frag} {β : Type} {g : G} {H : Hp} {x : PyData} {m : Mem} {f : Int → Mem → Res β} {Q : β → Mem → G → Hp → Prop} (h : Rz K ((intR x m).bind f) g H Q) : ∃ i, x = .int i ∧ Rz K (f i m) g H Q := by
  cases x with
  | int i => exact ⟨i, rfl, h⟩
  | none => exact h.elim
  | bool _ => exact h.elim
  | str _ => exact h.elim
  | list _ => exact h.elim
  | tuple _ => exact h.elim
  | dict _ => exact h.elim
theorem pe_slLUR {a b c : Expr} {pa pb pc : P} {q : Pos} (ha : PE X a (tE X.K pa.v)) (hb : PE X b (tE X.K pb.v)) (hc : PE X c (tE X.K pc.v)) : PE X (.Subscript a (.Slice (some b) (some c) none q) pos) (tE X.K (cSl3 pa pb pc)) := by
  refine PE.weak (pe_slice sl_R ha (po_some hb) (po_some hc)) fun σ H Q h => ?_
  obtain ⟨env, m, g, hs, hm, hz⟩ := h
  refine ⟨env, m, g, hs, hm, (Rz.bind hz).mono fun va m1 g1 H1 e1 s1 z1 x rx => ?_⟩
  obtain ⟨g1', s1', e1', rx'⟩ := s1.hold rx
  refine ⟨env, m1, g1', (hs.ext e1).ext e1', s1', (Rz.bind (z1.ext e1')).mono fun vb m2 g2 H2 e2 s2 z2 y ry => ?_⟩
  obtain ⟨g2', s2', e2', ry'⟩ := s2.hold ry
  obtain ⟨dy, hy, z3⟩ := Rz.rdBind (z2.ext e2')
  obtain ⟨l, rfl, z4⟩ := intBind z3
  have ey := (s2'.read (nf_ne vb) ry' hy).int
  refine ⟨l, ey, env, m2, g2', (((hs.ext e1).ext e1').ext e2).ext e2', s2', (Rz.bind z4).mono fun vc m3 g3 H3 e3 s3 z5 z rz => ?_⟩
  obtain ⟨g3', s3', e3', rz'⟩ := s3.hold rz
  obtain ⟨dx, hx, z6⟩ := Rz.rdBind (z5.ext e3')
  obtain ⟨dz, hz', z7⟩ := Rz.rdBind z6
  obtain ⟨h, rfl, z8⟩ := intBind z7
  exact ⟨h, (s3'.read (nf_ne vc) rz' hz').int, m3, g3', dx, s3', s3'.read (nf_ne va) (RpV.ext ((e2.trans e2').trans (e3.trans e3')) (nf_ne va) rx') hx, z8⟩
/-- a value that is True or False, as a test -/
theorem val_bool {K : PySem.W.Frag} {v : EV} {σ : L2.St} {H : Hp} {Q : Bool → Hp → Prop} (hv : ∀ env m, ∃ q : Res Bool, v env m = q.bind boolR) (h : tT K (ofV v).t σ H Q) : tE K v σ H fun x H' => ∃ k, x = .bl k ∧ Q k H' := by
  obtain ⟨env, m, g, hs, hm, hz⟩ := h
  refine ⟨env, m, g, hs, hm, ?_⟩
  obtain ⟨q, hq⟩ := hv env m
  have hz' : Rz K ((v env m).bind truR) g H fun b _ _ H' => Q b H' := hz
  rw [hq] at hz' ⊢
  cases q with
  | fail => exact hz'.elim
  | exc a b => exact hz'.elim
  | ok c m1 =>
    intro g1 H1 e1 s1 x rx
    cases rx
    exact ⟨c, rfl, hz' g1 H1 e1 s1⟩
theorem c1_bool {K : PySem.W.Frag} {pa : P} {f : PyData → Bool} {σ : L2.St} {H : Hp} {Q : Bool → Hp → Prop} (h : tT K (ofV (c1 pa fun x m => boolR (f x) m)).t σ H Q) : tE K (c1 pa fun x m => boolR (f x) m) σ H fun x H' => ∃ k, x = .bl k ∧ Q k H' := by
  refine val_bool (fun env m => ?_) h
  unfold c1
  cases pa.v env m with
  | fail => exact ⟨.fail, rfl⟩
  | exc a b => exact ⟨.exc a b, rfl⟩
  | ok va m1 =>
    simp only [Res.bind_ok, rdR]
    cases rd m1 va.nf with
    | none => exact ⟨.fail, rfl⟩
    | some x => exact ⟨.ok (f x) m1, rfl⟩
theorem chain_bool {K : PySem.W.Frag} {pa pb pc : P} {o o' : Cop} {σ : L2.St} {H : Hp} {Q : Bool → Hp → Prop} (h : tT K (ofV (cChain o o' pa pb pc)).t σ H Q) : tE K (cChain o o' pa pb pc) σ H fun x H' => ∃ k, x = .bl k ∧ Q k H' := by
  refine val_bool (fun env m => ?_) h
  unfold cChain
  cases pa.v env m with
  | fail => exact ⟨.fail, rfl⟩
  | exc a b => exact ⟨.exc a b, rfl⟩
  | ok va m1 =>
    simp only [Res.bind_ok]
    cases pb.v env m1 with
    | fail => exact ⟨.fail, rfl⟩
    | exc a b => exact ⟨.exc a b, rfl⟩
    | ok vb m2 =>
      simp only [Res.bind_ok, rdR]
      cases rd m2 va.nf with
      | none => exact ⟨.fail, rfl⟩
      | some x =>
        simp only [optR_some, Res.bind_ok]
        cases rd m2 vb.nf with
        | none => exact ⟨.fail, rfl⟩
        | some y =>
          simp only [optR_some, Res.bind_ok]
          cases cmp o x y with
          | none => exact ⟨.fail, rfl⟩
          | some t =>
            simp only [optR_some, Res.bind_ok]
            cases t with
            | false => exact ⟨.ok false m2, rfl⟩
            | true =>
              simp only [if_true]
              cases pc.v env m2 with
              | fail => exact ⟨.fail, rfl⟩
              | exc a b => exact ⟨.exc a b, rfl⟩
              | ok vc m6 =>
                simp only [Res.bind_ok]
                cases rd m6 vb.nf with
                | none => exact ⟨.fail, rfl⟩
                | some y' =>
                  simp only [optR_some, Res.bind_ok]
                  cases rd m6 vc.nf with
                  | none => exact ⟨.fail, rfl⟩
                  | some z => exact ⟨_, rfl⟩
/-! calls of built-ins -/
inductive RrAll (K : PySem.W.Frag) (F : Addr → Prop) (H : Hp) : List V → List PyData → Prop
  | nil : RrAll K F H [] []
  | cons {x : V} {xs : List V} {d : PyData} {ds : List PyData} : Rr K F H x d → RrAll K F H xs ds → RrAll K F H (x :: xs) (d :: ds)
theorem look_ok {K : PySem.W.Frag} {m : Mem} {g : G} {H : Hp} (S : SimM K m g H) : ∀ {xs : List V} {vs : List Val} {ds : List PyData}, RpVs K g H xs vs → lookAll m vs = some ds → RrAll K g.F H xs ds
  | _, _, _, .nil, e => by
    cases e; exact .nil
  | _, _, ds, .cons (v := v) (vs := vs) r hf t, e => by
    unfold lookAll at e
    cases h1 : rd m v with
    | none => rw [h1] at e; cases e
    | some d =>
      cases h2 : lookAll m vs with
      | none => rw [h1, h2] at e; cases e
      | some ds' =>
        rw [h1, h2] at e
        cases e
        exact .cons (S.read hf r h1) (look_ok S t h2)
def rBi (K : PySem.W.Frag) (f : List PyData → Option Val) : List V → Hp → VK → Prop := fun xs H Q => ∃ m g ds, SimM K m g H ∧ RrAll K g.F H xs ds ∧ Rz K (optR (f ds) m) g H (Ans K Q)
theorem bi_ok {K : PySem.W.Frag} {b : Bi} {σ : L2.St} {H : Hp} {Q : VK} (h : tE K (cBi b ps) σ H Q) : tCB (rBi K (bi b)) (tAr K (cArgs ps)) σ H Q := by
  obtain ⟨env, m, g, hs, hm, hz⟩ := h
  refine ⟨env, m, g, hs, hm, (Rz.bind hz).mono fun vs m1 g1 H1 e1 s1 z1 xs rxs => ?_⟩
  obtain ⟨ds, hd, z2⟩ := Rz.optBind z1
  exact ⟨m1, g1, ds, s1, look_ok s1 rxs hd, z2⟩
theorem pe_biB {b : Bi} {id : String} {x : Str} {q : Pos} (hc : CallR X (.builtin id) (rBi X.K (bi b))) (hg : Gl X x) (hm : X.mg x = none) (hv : bootBuiltins x = some (.builtin id)) (hn : x ≠ "__name__") (hdb : (x == ("__debug__" : Str)) = false)
    (ha : PA X (e :: es) (tAr X.K (cArgs ps))) (h1 : notStar e = true) (h2 : es.all notStar = true) : PE X (.Call (.Name x q) (e :: es) [] pos) (tE X.K (cBi b ps)) :=
  PE.weak (pe_callB hc hg hm hv ha hn hdb (star1 h1 _ _) (star_plain _ _ _ h2)) fun _ _ _ h => bi_ok h
theorem pe_biT {b : Bi} {T : String} {x : Str} {q : Pos} (hc : CallR X (.type T) (rBi X.K (bi b))) (hg : Gl X x) (hm : X.mg x = none) (hv : bootBuiltins x = some (.type T)) (hn : x ≠ "__name__") (hdb : (x == ("__debug__" : Str)) = false)
    (ha : PA X (e :: es) (tAr X.K (cArgs ps))) (h1 : notStar e = true) (h2 : es.all notStar = true) : PE X (.Call (.Name x q) (e :: es) [] pos) (tE X.K (cBi b ps)) :=
  PE.weak (pe_callTy hc hg hm hv ha hn hdb (star1 h1 _ _) (star_plain _ _ _ h2)) fun _ _ _ h => bi_ok h
end
end Ra


set_option Elab.async false
set_option linter.all false
set_option autoImplicit false
set_option maxRecDepth 100000
/-! built-ins by the evaluator -/
namespace Ra
open PySem PySem.Spec PyProof.Rows L2
section
variable {X : Cx}
theorem RrAll.one {K : PySem.W.Frag} {F : Addr → Prop} {H : Hp} {xs : List V} {d : PyData} (h : RrAll K F H xs [d]) : ∃ x, xs = [x] ∧ Rr K F H x d := by
  cases h with
  | cons r t => cases t; exact ⟨_, rfl, r⟩
theorem RrAll.two {K : PySem.W.Frag} {F : Addr → Prop} {H : Hp} {xs : List V} {d d' : PyData} (h : RrAll K F H xs [d, d']) : ∃ x y, xs = [x, y] ∧ Rr K F H x d ∧ Rr K F H y d' := by
  cases h with
  | cons r t =>
    obtain ⟨y, rfl, q⟩ := t.one
    exact ⟨_, y, rfl, r, q⟩
theorem cr_len : CallR X (.builtin "len") (rBi X.K (bi .len)) := by
  refine CallR.weak call_len fun xs H Q ⟨m, g, ds, S, hx, hz0⟩ => ?_
  obtain ⟨w, hw, hz⟩ := Rz.opt hz0
  clear hz0
  replace hw : lenD ds = some w := hw
  unfold lenD at hw
  split at hw
  · cases hw
    obtain ⟨x, rfl, h⟩ := hx.one
    obtain ⟨a, vs, rfl, h1, h2⟩ := h.lst
    exact ⟨_, _, rfl, .inl ⟨vs, .inl h1, h2.length.symm⟩, ans_d S hz (.int _)⟩
  · cases hw
    obtain ⟨x, rfl, h⟩ := hx.one
    obtain ⟨a, vs, rfl, h1, h2⟩ := h.tup
    exact ⟨_, _, rfl, .inr ⟨vs, h1, h2.length.symm⟩, ans_d S hz (.int _)⟩
  · cases hw
    obtain ⟨x, rfl, h⟩ := hx.one
    have hl := sok_len h.sok
    have e := h.str
    subst e
    exact ⟨_, _, rfl, ⟨hl, rfl⟩, ans_d S hz (.int _)⟩
  · cases hw
theorem cr_abs : CallR X (.builtin "abs") (rBi X.K (bi .abs)) := by
  refine CallR.weak call_abs fun xs H Q ⟨m, g, ds, S, hx, hz0⟩ => ?_
  obtain ⟨w, hw, hz⟩ := Rz.opt hz0
  clear hz0
  replace hw : absD ds = some w := hw
  unfold absD at hw
  split at hw
  · cases hw
    obtain ⟨x, rfl, h⟩ := hx.one
    have e := h.int
    subst e
    exact ⟨_, rfl, ans_d S hz (.int _)⟩
  · cases hw
theorem cr_int : CallR X (.type "int") (rBi X.K (bi .int)) := by
  refine CallR.weak call_int1 fun xs H Q ⟨m, g, ds, S, hx, hz0⟩ => ?_
  obtain ⟨w, hw, hz⟩ := Rz.opt hz0
  clear hz0
  replace hw : intD ds = some w := hw
  unfold intD at hw
  split at hw
  · cases hw
    obtain ⟨x, rfl, h⟩ := hx.one
    have e := h.int
    subst e
    exact .inl ⟨_, rfl, ans_d S hz (.int _)⟩
  · cases hw
    obtain ⟨x, rfl, h⟩ := hx.one
    have e := h.bool
    subst e
    exact .inr ⟨_, rfl, ans_d S hz (.int _)⟩
  · cases hw
theorem cr_min2 (hc : X.calm = true) : CallR X (.builtin "min") (rBi X.K (bi .min2)) := by
  refine CallR.weak (call_min2 hc) fun xs H Q ⟨m, g, ds, S, hx, hz0⟩ => ?_
  obtain ⟨w, hw, hz⟩ := Rz.opt hz0
  clear hz0
  replace hw : min2D ds = some w := hw
  unfold min2D at hw
  split at hw
  · cases hw
    obtain ⟨x, y, rfl, h, h'⟩ := hx.two
    have e := h.int
    have e' := h'.int
    subst e e'
    exact ⟨_, _, rfl, ans_d S hz (.int _)⟩
  · cases hw
theorem cr_max2 (hc : X.calm = true) : CallR X (.builtin "max") (rBi X.K (bi .max2)) := by
  refine CallR.weak (call_max2 hc) fun xs H Q ⟨m, g, ds, S, hx, hz0⟩ => ?_
  obtain ⟨w, hw, hz⟩ := Rz.opt hz0
  clear hz0
  replace hw : max2D ds = some w := hw
  unfold max2D at hw
  split at hw
  · cases hw
    obtain ⟨x, y, rfl, h, h'⟩ := hx.two
    have e := h.int
    have e' := h'.int
    subst e e'
    exact ⟨_, _, rfl, ans_d S hz (.int _)⟩
  · cases hw
theorem bools_ok {K : PySem.W.Frag} {F : Addr → Prop} {H : Hp} : ∀ {ds : List PyData} {xs : List V} {bs : List Bool}, RpAll K F H xs ds → bools ds = some bs → xs = bs.map V.bl
  | [], _, bs, h, e => by
    cases h; cases e; rfl
  | d :: ds, _, bs, h, e => by
    cases h with
    | cons r t =>
      cases r with
      | bl b =>
        simp only [bools] at e
        obtain ⟨bs', e1, e2⟩ := Option.map_eq_some_iff.mp e
        subst e2
        rw [bools_ok t e1]; rfl
      | non => cases e
      | int _ => cases e
      | str _ _ => cases e
      | lst _ _ => cases e
      | tup _ _ => cases e
theorem crAll (hc : X.calm = true) : CallR X (.builtin "all") (rBi X.K (bi .all)) := by
  refine CallR.weak (cr_all hc) fun xs H Q ⟨m, g, ds, S, hx, hz0⟩ => ?_
  obtain ⟨w, hw, hz⟩ := Rz.opt hz0
  clear hz0
  replace hw : allD ds = some w := hw
  unfold allD at hw
  split at hw
  · obtain ⟨bs, hb, e⟩ := Option.map_eq_some_iff.mp hw
    subst e
    obtain ⟨x, rfl, h⟩ := hx.one
    obtain ⟨a, vs, rfl, h1, h2⟩ := h.lst
    have e := bools_ok h2 hb
    subst e
    exact ⟨a, bs, rfl, .inl h1, ans_d S hz (.bl _)⟩
  · cases hw
theorem crAny (hc : X.calm = true) : CallR X (.builtin "any") (rBi X.K (bi .any)) := by
  refine CallR.weak (cr_any hc) fun xs H Q ⟨m, g, ds, S, hx, hz0⟩ => ?_
  obtain ⟨w, hw, hz⟩ := Rz.opt hz0
  clear hz0
  replace hw : anyD ds = some w := hw
  unfold anyD at hw
  split at hw
  · obtain ⟨bs, hb, e⟩ := Option.map_eq_some_iff.mp hw
    subst e
    obtain ⟨x, rfl, h⟩ := hx.one
    obtain ⟨a, vs, rfl, h1, h2⟩ := h.lst
    have e := bools_ok h2 hb
    subst e
    exact ⟨a, bs, rfl, .inl h1, ans_d S hz (.bl _)⟩
  · cases hw
end
end Ra


set_option Elab.async false
set_option linter.all false
set_option autoImplicit false
set_option maxRecDepth 100000
/-! sorted -/
namespace Ra
open PySem PySem.Spec PyProof.Rows L2
abbrev dle : PyData → PyData → Bool := PySem.W.dataLe false id
theorem dle_eq (a b : PyData) : dle a b = !PySem.W.dataLt b a := rfl
theorem dle_total : PySem.W.TotalLe dle := PySem.W.sortLe_total _ _ _
theorem ins_mem (x y : PyData) : ∀ l, y ∈ ins x l ↔ y = x ∨ y ∈ l
  | [] => by simp [ins]
  | z :: l => by
    unfold ins
    split
    · simp
    · simp only [List.mem_cons, ins_mem x y l]
      constructor
      · rintro (h | h | h)
        · exact .inr (.inl h)
        · exact .inl h
        · exact .inr (.inr h)
      · rintro (h | h | h)
        · exact .inr (.inl h)
        · exact .inl h
        · exact .inr (.inr h)
theorem ins_sorted (x : PyData) : ∀ l : List PyData, l.Pairwise (fun a b => dle a b = true) → (ins x l).Pairwise (fun a b => dle a b = true)
  | [], _ => by simp [ins]
  | z :: l, h => by
    obtain ⟨h1, h2⟩ := List.pairwise_cons.mp h
    unfold ins
    split
    · rename_i hlt
      have hxz : dle x z = true := by
        rcases dle_total.total x z with q | q
        · exact q
        · rw [dle_eq, hlt] at q; cases q
      refine List.pairwise_cons.mpr ⟨fun y hy => ?_, h⟩
      rcases List.mem_cons.mp hy with rfl | hy
      · exact hxz
      · exact dle_total.trans _ _ _ hxz (h1 y hy)
    · rename_i hlt
      refine List.pairwise_cons.mpr ⟨fun y hy => ?_, ins_sorted x l h2⟩
      rcases (ins_mem x y l).mp hy with rfl | hy
      · rw [dle_eq]; simpa using hlt
      · exact h1 y hy
theorem rank_not {c x y z : PyData} (hx : PySem.W.sameRank dle c x = true) (hlt : PySem.W.dataLt x y = true) (hyz : dle y z = true) : PySem.W.sameRank dle c z = false := by
  cases h : PySem.W.sameRank dle c z with
  | false => rfl
  | true =>
    unfold PySem.W.sameRank at hx h
    simp only [Bool.and_eq_true] at hx h
    have : dle y x = true := dle_total.trans _ _ _ hyz (dle_total.trans _ _ _ h.2 hx.1)
    rw [dle_eq, hlt] at this
    cases this
theorem ins_filter (x c : PyData) : ∀ l : List PyData, l.Pairwise (fun a b => dle a b = true) → (ins x l).filter (PySem.W.sameRank dle c) = l.filter (PySem.W.sameRank dle c) ++ [x].filter (PySem.W.sameRank dle c)
  | [], _ => by simp [ins]
  | z :: l, h => by
    obtain ⟨h1, h2⟩ := List.pairwise_cons.mp h
    unfold ins
    split
    · rename_i hlt
      cases hx : PySem.W.sameRank dle c x with
      | false => simp [hx]
      | true =>
        have hz : PySem.W.sameRank dle c z = false := rank_not hx hlt (by
          rcases dle_total.total z z with q | q <;> exact q)
        have hl : l.filter (PySem.W.sameRank dle c) = [] := List.filter_eq_nil_iff.mpr fun y hy => by
          rw [rank_not hx hlt (h1 y hy)]; simp
        simp [hx, hz, hl]
    · cases hz : PySem.W.sameRank dle c z with
      | false => rw [List.filter_cons_of_neg (by rw [hz]; simp), List.filter_cons_of_neg (by rw [hz]; simp)]; exact ins_filter x c l h2
      | true => rw [List.filter_cons_of_pos hz, List.filter_cons_of_pos hz, ins_filter x c l h2]; rfl
theorem isort_sorted : ∀ (l acc : List PyData), acc.Pairwise (fun a b => dle a b = true) → (isort acc l).Pairwise (fun a b => dle a b = true)
  | [], _, h => h
  | x :: l, acc, h => isort_sorted l _ (ins_sorted x acc h)
theorem isort_filter (c : PyData) : ∀ (l acc : List PyData), acc.Pairwise (fun a b => dle a b = true) → (isort acc l).filter (PySem.W.sameRank dle c) = acc.filter (PySem.W.sameRank dle c) ++ l.filter (PySem.W.sameRank dle c)
  | [], acc, _ => by simp [isort]
  | x :: l, acc, h => by
    rw [isort, isort_filter c l _ (ins_sorted x acc h), ins_filter x c acc h, List.append_assoc, ← List.filter_append]
    rfl
theorem isort_eq (l : List PyData) : isort [] l = l.mergeSort dle :=
  PySem.W.sort_unique dle_total (isort_sorted l [] List.Pairwise.nil) fun c => by
    rw [isort_filter c l [] List.Pairwise.nil]; rfl
theorem isort_length : ∀ (l acc : List PyData), (isort acc l).length = acc.length + l.length
  | [], acc => by simp [isort]
  | x :: l, acc => by
    have h : ∀ a : List PyData, (ins x a).length = a.length + 1 := by
      intro a
      induction a with
      | nil => rfl
      | cons y a ih =>
        unfold ins
        split
        · simp
        · simp [ih]
    rw [isort, isort_length l, h, List.length_cons]; omega
section
variable {X : Cx} {K : PySem.W.Frag} {F : Addr → Prop} {H : Hp}
theorem each_of {R : Value → PyData → Prop} : ∀ {xs : List V} {us : List Value} {ds : List PyData}, Vals xs us → RpAll K F H xs ds → (∀ x u d, RelV x u → Rp K F H x d → R u d) → PySem.W.EachIs R us ds
  | _, _, _, .nil, .nil, _ => .nil
  | _, _, _, .cons r t, .cons a b, f => .cons (f _ _ _ r a) (each_of t b f)
theorem of_each : ∀ {us : List Value} {ds : List PyData}, PySem.W.EachIs (fun u d => ∃ x, RelV x u ∧ Rp K F H x d) us ds → ∃ xs, Vals xs us ∧ RpAll K F H xs ds
  | _, _, .nil => ⟨[], .nil, .nil⟩
  | _, _, .cons ⟨x, r, a⟩ t => by
    obtain ⟨xs, h1, h2⟩ := of_each t
    exact ⟨x :: xs, .cons r h1, .cons a h2⟩
theorem sortable_ok {ds : List PyData} (h : sortable ds = true) : PySem.W.Sortable ds := by
  unfold sortable at h
  rcases Bool.or_eq_true_iff.mp h with h | h
  · refine .inl fun d hd => ?_
    have := List.all_eq_true.mp h d hd
    unfold isTupC at this
    split at this
    · exact ⟨_, _, rfl⟩
    · cases this
  · refine .inr fun d hd => ?_
    have := List.all_eq_true.mp h d hd
    unfold isPlainC at this
    split at this
    · exact ⟨by simp, by simp⟩
    · exact ⟨by simp, by simp⟩
    · cases this
theorem alike_ok {ds : List PyData} (h : allAlike ds = true) : PySem.W.AllAlike ds := fun d hd d' hd' => List.all_eq_true.mp (List.all_eq_true.mp h d hd) d' hd'
theorem depth_le : ∀ {ds : List PyData} {d : PyData}, d ∈ ds → d.depth ≤ PyData.depthAll ds
  | e :: ds, d, h => by
    simp only [PyData.depthAll]
    rcases List.mem_cons.mp h with rfl | h
    · exact Nat.le_max_left _ _
    · exact Nat.le_trans (depth_le h) (Nat.le_max_right _ _)
theorem cr_sorted' (hu : X.A.units + 200 < cLine) : CallR X (.builtin "sorted") (rBi X.K (bi .sorted)) := by
  intro pins s σ H vs us Q I r h
  obtain ⟨m, g, ds, S, hx, hz0⟩ := h
  obtain ⟨w, hw, hz⟩ := Rz.opt hz0
  clear hz0
  replace hw : sortedD ds = some w := hw
  unfold sortedD at hw
  split at hw
  · rename_i xs
    obtain ⟨ys, hy, e⟩ := Option.map_eq_some_iff.mp hw
    subst e
    unfold sortD at hy
    split at hy
    · rename_i hc
      cases hy
      obtain ⟨hc1, hc3⟩ := Bool.and_eq_true_iff.mp hc
      obtain ⟨hal, hso⟩ := Bool.and_eq_true_iff.mp hc1
      have hdp : PyData.depthAll xs ≤ 64 := of_decide_eq_true hc3
      obtain ⟨x, rfl, h⟩ := hx.one
      obtain ⟨a, ws, rfl, h1, h2⟩ := h.lst
      obtain ⟨its, rv, hl, hlen⟩ := I.list (.inl h1)
      rw [Vals.ref1 r]
      refine PySem.W.sorted_data (enc := id) (R := fun u d => ∃ x, RelV x u ∧ Rp X.K g.F H x d) (bs := xs) hl.isList (each_of rv h2 fun x u d a b => ⟨x, a, b⟩)
        (each_of rv h2 fun x u d a b => Dp.reads I d x u (Rp.dp d b) a) (by rw [List.map_id]; exact alike_ok hal) (by rw [List.map_id]; exact sortable_ok hso) (by rw [← h2.length]; exact hlen) (fun b hb => by
          have := depth_le hb
          show X.A.units + 2 + b.depth < cLine
          omega) fun out ho he => ?_
      rw [← isort_eq] at he
      obtain ⟨zs, z1, z2⟩ := of_each he
      obtain ⟨ep, he'⟩ := PyProof.Rows.sortedAll_at s.heap its (List.toArray out)
      have hzl : zs.length ≤ sizeLine := by rw [z1.length, ho, ← h2.length]; exact hlen
      refine ⟨.ref _, upd H (s.heap.objs.size + 1) (.lst zs), I.laid (t' := s.toks) (fun _ _ => PyProof.Rows.sortedAll_old) (Nat.le_succ _) ⟨hzl, out, ep, z1, ?_⟩, rfl, ans_l S hz z2 hzl (I.hok.fresh (Nat.le_succ _))⟩
      exact he'
    · cases hy
  · cases hw
end
end Ra


set_option Elab.async false
set_option linter.all false
set_option autoImplicit false
set_option maxRecDepth 100000
/-! targets, walks, comprehensions, loops -/
namespace Ra
open PySem PySem.Spec PyProof.Rows L2
/-! targets -/
mutual
def slots : Tg → List Nat
  | .nm i => [i]
  | .tp ts => slotsAll ts
def slotsAll : List Tg → List Nat
  | [] => []
  | t :: ts => slots t ++ slotsAll ts
end
theorem wipe_set {σ : L2.St} {i : Nat} {v : Option V} : ∀ {vs : List Nat}, i ∈ vs → L2.wipe (σ.set i v) vs = L2.wipe σ vs
  | w :: vs, h => by
    have comm : ∀ {vs : List Nat}, i ∉ vs → L2.wipe (σ.set i v) vs = (L2.wipe σ vs).set i v := by
      intro vs
      induction vs with
      | nil => intro _; rfl
      | cons u r ih =>
        intro hn
        show (L2.wipe (σ.set i v) r).set u none = ((L2.wipe σ r).set u none).set i v
        rw [ih (fun z => hn (List.mem_cons_of_mem _ z)), List.set_comm _ _ (fun z => hn (by rw [z]; exact List.mem_cons_self))]
    by_cases hv : i ∈ vs
    · show (L2.wipe (σ.set i v) vs).set w none = (L2.wipe σ vs).set w none
      rw [wipe_set hv]
    · have hw : i = w := by
        rcases List.mem_cons.mp h with z | z
        · exact z
        · exact absurd z hv
      subst hw
      show (L2.wipe (σ.set i v) vs).set i none = (L2.wipe σ vs).set i none
      rw [comm hv, List.set_set]
def gT (K : PySem.W.Frag) (t : Tg) : TG := fun x σ H Q => ∃ env g d env', Sg K env σ g H ∧ Rp K g.F H x d ∧ asg t d env = some env' ∧
  ∀ σ', Sg K env' σ' g H → (∀ vs, (∀ i ∈ slots t, i ∈ vs) → L2.wipe σ' vs = L2.wipe σ vs) → Q σ' H
def gTs (K : PySem.W.Frag) (ts : List Tg) : TGs := fun xs σ H Q => ∃ env g ds env', Sg K env σ g H ∧ RpAll K g.F H xs ds ∧ asgs ts ds env = some env' ∧
  ∀ σ', Sg K env' σ' g H → (∀ vs, (∀ i ∈ slotsAll ts, i ∈ vs) → L2.wipe σ' vs = L2.wipe σ vs) → Q σ' H
section
variable {X : Cx} {e : Expr} {es : List Expr} {pos : Pos}
theorem PG.weak {t t' : TG} (h : PG X e t) (w : ∀ x σ H Q, t' x σ H Q → t x σ H Q) : PG X e t' := ⟨fun pins s σ H v u Q I r q => h.run pins s σ H v u Q I r (w v σ H Q q)⟩
theorem PGs.weak {t t' : TGs} (h : PGs X es t) (w : ∀ x σ H Q, t' x σ H Q → t x σ H Q) : PGs X es t' := ⟨fun pins s σ H v u Q I r q => h.run pins s σ H v u Q I r (w v σ H Q q)⟩
theorem pg_nameR {i : Nat} {x : Str} (hN : X.N.Nodup) (hi : X.N[i]? = some x) (hx : Loc X.env.scope x) (hf : X.fn x = true ∨ X.env.scope.names.lookup x = some .local) : PG X (.Name x pos) (gT X.K (.nm i)) := by
  refine PG.weak (pg_name hN hi hx hf) fun v σ H Q ⟨env, g, d, env', hs, hr, ha, q⟩ => ?_
  simp only [asg] at ha
  split at ha
  · rename_i hlt
    cases ha
    exact q _ (hs.set (v := .d d) hr (by simp) hlt) fun vs hv => wipe_set (hv i (by simp [slots]))
  · cases ha
theorem pgs_nilR : PGs X [] (gTs X.K []) := PGs.weak pgs_nil fun v σ H Q ⟨env, g, ds, env', hs, hr, ha, q⟩ => by
  cases ds with
  | nil =>
    cases hr
    cases ha
    exact ⟨rfl, q σ hs fun _ _ => rfl⟩
  | cons _ _ => cases ha
theorem assign_plain {e : Expr} (h : notStar e = true) (es : List Expr) (env : PySem.Env) : assignEach (e :: es) env = (false, assign e env) :: assignEach es env := by
  cases e <;> first | rfl | (cases h; done)
theorem pgs_consR {t : Tg} {ts : List Tg} (h1 : PG X e (gT X.K t)) (h2 : PGs X es (gTs X.K ts)) (ns : notStar e = true) : PGs X (e :: es) (gTs X.K (t :: ts)) := by
  refine PGs.weak (pgs_cons h1 h2 (by rw [assign_plain ns]; rfl)) fun v σ H Q ⟨env, g, ds, env', hs, hr, ha, q⟩ => ?_
  cases ds with
  | nil => cases ha
  | cons d ds =>
    simp only [asgs] at ha
    cases hr with
    | cons r rr =>
      cases h3 : asg t d env with
      | none => rw [h3] at ha; cases ha
      | some env1 =>
        rw [h3] at ha
        refine ⟨_, _, rfl, env, g, d, env1, hs, r, h3, fun σ1 hs1 w1 => ?_⟩
        refine ⟨env1, g, ds, env', hs1, rr, ha, fun σ2 hs2 w2 => q σ2 hs2 fun vs hv => ?_⟩
        rw [w2 vs fun i hi => hv i (by simp [slotsAll, hi]), w1 vs fun i hi => hv i (by simp [slotsAll, hi])]
theorem assign_len : ∀ (es : List Expr) (env : PySem.Env), es.all notStar = true → (assignEach es env).length = es.length ∧ (assignEach es env).findIdx? (·.1) = none
  | [], _, _ => ⟨rfl, rfl⟩
  | e :: es, env, h => by
    obtain ⟨h1, h2⟩ := Bool.and_eq_true_iff.mp (show (notStar e && es.all notStar) = true from h)
    obtain ⟨a, b⟩ := assign_len es env h2
    rw [assign_plain h1]
    exact ⟨by simp [a], by simp [List.findIdx?_cons, b]⟩
theorem asgs_len : ∀ (ts : List Tg) (ds : List PyData) (env env' : Env), asgs ts ds env = some env' → ds.length = ts.length
  | [], [], _, _, _ => rfl
  | [], _ :: _, _, _, h => by cases h
  | _ :: _, [], _, _, h => by cases h
  | t :: ts, d :: ds, env, env', h => by
    simp only [asgs] at h
    split at h
    · rw [List.length_cons, List.length_cons, asgs_len ts ds _ _ h]
    · cases h
theorem pg_tupR {ts : List Tg} {k : Nat} (hc : X.calm = true) (h : PGs X es (gTs X.K ts)) (ns : es.all notStar = true) (hl : es.length = ts.length) : PG X (.Tuple es k pos) (gT X.K (.tp ts)) := by
  obtain ⟨a, b⟩ := assign_len es X.env ns
  refine PG.weak (pg_tup (n := es.length) hc h a b) fun v σ H Q ⟨env, g, d, env', hs, hr, ha, q⟩ => ?_
  simp only [asg] at ha
  split at ha
  · obtain ⟨p, xs, rfl, h1, h2⟩ := (Rp.rr hr).tup
    exact ⟨p, xs, rfl, h1, by rw [h2.length, asgs_len _ _ _ _ ha, hl], env, g, _, env', hs, h2, ha, q⟩
  · cases ha
end
/-! what is walked -/
/-- D is left alone -/
def G.hold (g : G) (D : Addr) : G := ⟨g.F, g.ad, fun b => b = D ∨ g.pr b⟩
/-- .. and no more -/
def G.back (g : G) (pr : Addr → Prop) : G := ⟨g.F, g.ad, pr⟩
theorem Ext.toBack {g0 g : G} {H0 H : Hp} (e : Ext g0 H0 g H) : Ext g0 H0 (g.back g0.pr) H := ⟨e.sub, e.fix, e.tup, e.frz, e.ads, rfl, e.keep⟩
structure WalkOk (K : PySem.W.Frag) (J : It) (is : List PyData) (gs : List Nat) (m0 : Mem) (g0 : G) (H0 : Hp) : Prop where
  len : is.length ≤ sizeLine
  go : ∀ (i : Nat) (m : Mem) (g : G) (H : Hp), Ext g0 H0 (g.back g0.pr) H → SimM K m g H → same gs m0 m = true → i < is.length → J.go i H
  yld : ∀ (i : Nat) (m : Mem) (g : G) (H : Hp) (x : V) (H' : Hp) (d : PyData), Ext g0 H0 (g.back g0.pr) H → SimM K m g H → same gs m0 m = true → is[i]? = some d → J.yld i H x H' → SimM K m g H' ∧ Ext g H g H' ∧ Rp K g.F H' x d
  stop : ∀ (i : Nat) (m : Mem) (g : G) (H : Hp), Ext g0 H0 (g.back g0.pr) H → SimM K m g H → same gs m0 m = true → is.length ≤ i → J.stop i H
mutual
theorem beq_ok : ∀ (x y : PyData), beqD x y = true → x = y
  | .none, y, h => by cases y <;> first | rfl | (simp [beqD] at h; done)
  | .bool a, y, h => by
    cases y <;> simp [beqD] at h
    rw [h]
  | .int a, y, h => by
    cases y <;> simp [beqD] at h
    rw [h]
  | .str a, y, h => by
    cases y <;> simp [beqD] at h
    rw [h]
  | .list a, y, h => by
    cases y <;> simp [beqD] at h
    rw [beqs_ok a _ h]
  | .tuple a, y, h => by
    cases y <;> simp [beqD] at h
    rw [beqs_ok a _ h]
  | .dict a, y, h => by
    cases y <;> simp [beqD] at h
    rw [beqp_ok a _ h]
theorem beqs_ok : ∀ (x y : List PyData), beqDs x y = true → x = y
  | [], y, h => by cases y <;> first | rfl | (simp [beqDs] at h; done)
  | x :: xs, y, h => by
    cases y with
    | nil => simp [beqDs] at h
    | cons y ys =>
      simp [beqDs] at h
      rw [beq_ok x y h.1, beqs_ok xs ys h.2]
theorem beqp_ok : ∀ (x y : List (PyData × PyData)), beqPs x y = true → x = y
  | [], y, h => by cases y <;> first | rfl | (simp [beqPs] at h; done)
  | (x, u) :: xs, y, h => by
    cases y with
    | nil => simp [beqPs] at h
    | cons y ys =>
      obtain ⟨y, v⟩ := y
      simp [beqPs] at h
      rw [beq_ok x y h.1.1, beq_ok u v h.1.2, beqp_ok xs ys h.2]
end
mutual
theorem beq_refl : ∀ x : PyData, beqD x x = true
  | .none => rfl
  | .bool a => by simp [beqD]
  | .int a => by simp [beqD]
  | .str a => by simp [beqD]
  | .list a => beqs_refl a
  | .tuple a => beqs_refl a
  | .dict a => beqp_refl a
theorem beqs_refl : ∀ x : List PyData, beqDs x x = true
  | [] => rfl
  | x :: xs => by
    simp [beqDs, beq_refl x, beqs_refl xs]
theorem beqp_refl : ∀ x : List (PyData × PyData), beqPs x x = true
  | [] => rfl
  | (x, u) :: xs => by
    simp [beqPs, beq_refl x, beq_refl u, beqp_refl xs]
end
theorem same_at : ∀ {gs : List Nat} {m m' : Mem} {k : Nat}, same gs m m' = true → k ∈ gs → ∃ c c', m[k]? = some c ∧ m'[k]? = some c' ∧ c'.xs = c.xs
  | j :: gs, m, m', k, h, hk => by
    obtain ⟨h1, h2⟩ := Bool.and_eq_true_iff.mp (show ((match m[j]?, m'[j]? with | some c, some c' => beqDs c.xs c'.xs | _, _ => false) && same gs m m') = true from h)
    rcases List.mem_cons.mp hk with rfl | hk
    · split at h1
      · rename_i c c' e1 e2
        exact ⟨c, c', e1, e2, (beqs_ok _ _ h1).symm⟩
      · cases h1
    · exact same_at h2 hk
theorem same_of : ∀ {gs : List Nat} {m m' : Mem}, (∀ k ∈ gs, ∃ c c', m[k]? = some c ∧ m'[k]? = some c' ∧ c'.xs = c.xs) → same gs m m' = true
  | [], _, _, _ => rfl
  | j :: gs, m, m', h => by
    obtain ⟨c, c', e1, e2, e3⟩ := h j List.mem_cons_self
    have ih := same_of (gs := gs) (m := m) (m' := m') fun k hk => h k (List.mem_cons_of_mem _ hk)
    show ((match m[j]?, m'[j]? with | some c, some c' => beqDs c.xs c'.xs | _, _ => false) && same gs m m') = true
    rw [e1, e2, ih]
    show (beqDs c.xs c'.xs && true) = true
    rw [e3, beqs_refl]; rfl
theorem same_trans {gs : List Nat} {m m1 m2 : Mem} (a : same gs m m1 = true) (b : same gs m1 m2 = true) : same gs m m2 = true := same_of fun k hk => by
  obtain ⟨c, c1, e1, e2, e3⟩ := same_at a hk
  obtain ⟨c1', c2, f1, f2, f3⟩ := same_at b hk
  rw [e2] at f1; cases f1
  exact ⟨c, c2, e1, f2, f3.trans e3⟩
theorem same_refl {gs : List Nat} {m : Mem} (h : ∀ k ∈ gs, ∃ c, m[k]? = some c) : same gs m m = true := same_of fun k hk => by
  obtain ⟨c, e⟩ := h k hk
  exact ⟨c, c, e, e, rfl⟩
end Ra


set_option Elab.async false
set_option linter.all false
set_option autoImplicit false
set_option maxRecDepth 100000
/-! walks of the evaluator's sources; comprehensions -/
namespace Ra
open PySem PySem.Spec PyProof.Rows L2
section
variable {X : Cx} {K : PySem.W.Frag}
def iS (K : PySem.W.Frag) (p : Env → Mem → Res (List PyData × List Nat)) : TI := fun σ H R => ∃ env m g, Sg K env σ g H ∧ SimM K m g H ∧
  Rz K (p env m) g H fun q m' g' H' => ∀ J, WalkOk K J q.1 q.2 m' g' H' → same q.2 m' m' = true → R J H'
/-- a value that is walked: data, or a cell that stays -/
def SrcL (K : PySem.W.Frag) (a : Addr) (ds : List PyData) (gs : List Nat) (m0 : Mem) (g0 : G) (H0 : Hp) : Prop :=
  ∀ (m : Mem) (g : G) (H : Hp), Ext g0 H0 (g.back g0.pr) H → SimM K m g H → same gs m0 m = true → ∃ xs, Rd H a (.lst xs) ∧ RpAll K g.F H xs ds
theorem src_list {m : Mem} {g : G} {H : Hp} {x : V} {v : Val} {ds : List PyData} (S : SimM K m g H) (hf : ∀ xs, v ≠ .fr xs) (h : RpV K g H x v) (e : rd m v = some (.list ds)) :
    ∃ a, x = .ref a ∧ SrcL K a ds (guards [v]) m g H ∧ same (guards [v]) m m = true := by
  cases v with
  | d y =>
    have e' : y = .list ds := Option.some.inj e
    subst e'
    cases h with
    | lst a b => exact ⟨_, rfl, fun m1 g1 H1 e1 s1 _ => ⟨_, (Rl.ext e1 a).rd, RpAll.ext e1 _ b⟩, rfl⟩
  | fr xs => exact absurd rfl (hf xs)
  | mr k =>
    obtain ⟨a, rfl, q⟩ := h
    cases hm : m[k]? with
    | none => simp [rd, hm] at e
    | some c =>
      simp only [rd, hm, Option.map_some, Option.some.injEq, PyData.list.injEq] at e
      refine ⟨a, rfl, fun m1 g1 H1 e1 s1 sm => ?_, same_refl fun k' hk' => ?_⟩
      · obtain ⟨c0, c1, f1, f2, f3⟩ := same_at sm (k := k) (by simp [guards])
        rw [hm] at f1; cases f1
        obtain ⟨vs, h1, h2, _⟩ := s1.cell k c1 a f2 (e1.at q)
        rw [f3, e] at h2
        exact ⟨vs, .inl h1, h2⟩
      · simp [guards] at hk'
        subst hk'
        exact ⟨c, hm⟩
theorem src_tup {m : Mem} {g : G} {H : Hp} {x : V} {v : Val} {ds : List PyData} (hf : ∀ xs, v ≠ .fr xs) (h : RpV K g H x v) (e : rd m v = some (.tuple ds)) :
    ∃ a xs, x = .ref a ∧ SqT K H a xs ∧ RpAll K g.F H xs ds ∧ guards [v] = [] := by
  cases v with
  | d y =>
    have e' : y = .tuple ds := Option.some.inj e
    subst e'
    cases h with
    | tup a b => exact ⟨_, _, rfl, a, b, rfl⟩
  | fr xs => exact absurd rfl (hf xs)
  | mr k =>
    cases hm : m[k]? with
    | none => simp [rd, hm] at e
    | some c => simp [rd, hm] at e
theorem src_str {m : Mem} {g : G} {H : Hp} {x : V} {v : Val} {z : Str} (hf : ∀ xs, v ≠ .fr xs) (h : RpV K g H x v) (e : rd m v = some (.str z)) :
    x = .str z ∧ sOk z = true ∧ guards [v] = [] := by
  cases v with
  | d y =>
    have e' : y = .str z := Option.some.inj e
    subst e'
    cases h with
    | str _ b => exact ⟨rfl, b, rfl⟩
  | fr xs => exact absurd rfl (hf xs)
  | mr k =>
    cases hm : m[k]? with
    | none => simp [rd, hm] at e
    | some c => simp [rd, hm] at e
theorem rd_len {m : Mem} {g : G} {H : Hp} {a : Addr} {xs : List V} (S : SimM K m g H) (h : Rd H a (.lst xs)) : xs.length ≤ sizeLine := by
  rcases h with h | ⟨o, h⟩
  · exact S.sz a xs (.inl h)
  · exact S.sz a xs (.inr (.inr (.inl ⟨o, h⟩)))
theorem sq_len {m : Mem} {g : G} {H : Hp} {a : Addr} {xs : List V} (S : SimM K m g H) (h : SqT K H a xs) : xs.length ≤ sizeLine := by
  rcases h with (h | ⟨o, h⟩) | ⟨o, its, n, _, _, _, h1, h2⟩
  · exact S.sz a xs (.inr (.inl h))
  · exact S.sz a xs (.inr (.inr (.inr ⟨o, h⟩)))
  · rw [h2.length]; simpa using h1
theorem walk_list {a : Addr} {ds : List PyData} {gs : List Nat} {m : Mem} {g : G} {H : Hp} (S : SimM K m g H) (h : SrcL K a ds gs m g H) (hr : same gs m m = true) : WalkOk K (Itl K a) ds gs m g H where
  len := by
    obtain ⟨xs, h1, h2⟩ := h m g H (Ext.refl g H) S hr
    rw [← h2.length]; exact rd_len S h1
  go := fun i m1 g1 H1 e1 s1 sm hi => by
    obtain ⟨xs, h1, h2⟩ := h m1 g1 H1 e1 s1 sm
    obtain ⟨x, hx, _⟩ := h2.get (List.getElem?_eq_getElem hi)
    exact ⟨xs, x, .inl h1, hx⟩
  yld := fun i m1 g1 H1 x H' d e1 s1 sm hd hy => by
    obtain ⟨rfl, hy⟩ := hy
    obtain ⟨xs, h1, h2⟩ := h m1 g1 _ e1 s1 sm
    obtain ⟨y, hx, hr⟩ := h2.get hd
    have := hy xs (.inl h1)
    rw [hx] at this; cases this
    exact ⟨s1, Ext.refl _ _, hr⟩
  stop := fun i m1 g1 H1 e1 s1 sm hi => by
    obtain ⟨xs, h1, h2⟩ := h m1 g1 H1 e1 s1 sm
    exact ⟨xs, .inl h1, by rw [h2.length]; exact hi⟩
theorem walk_tup {a : Addr} {xs : List V} {ds : List PyData} {m : Mem} {g : G} {H : Hp} (S : SimM K m g H) (h : SqT K H a xs) (h2 : RpAll K g.F H xs ds) : WalkOk K (Itt K a) ds [] m g H where
  len := by rw [← h2.length]; exact sq_len S h
  go := fun i m1 g1 H1 e1 s1 sm hi => by
    obtain ⟨x, hx, _⟩ := h2.get (List.getElem?_eq_getElem hi)
    exact ⟨xs, x, SqT.ext e1 h, hx⟩
  yld := fun i m1 g1 H1 x H' d e1 s1 sm hd hy => by
    obtain ⟨rfl, hy⟩ := hy
    obtain ⟨y, hx, hr⟩ := h2.get hd
    have := hy xs (SqT.ext e1 h)
    rw [hx] at this; cases this
    exact ⟨s1, Ext.refl _ _, Rp.ext e1 _ hr⟩
  stop := fun i m1 g1 H1 e1 s1 sm hi => ⟨xs, SqT.ext e1 h, by rw [h2.length]; exact hi⟩
theorem walk_str {z : Str} {m : Mem} {g : G} {H : Hp} (hz : sOk z = true) : WalkOk K (Its z) (signs z) [] m g H where
  len := by
    have := sok_len hz
    unfold signs
    rw [List.length_map, Array.length_toList]; exact this
  go := fun i m1 g1 H1 e1 s1 sm hi => by
    show i < z.cps.size
    unfold signs at hi
    rw [List.length_map, Array.length_toList] at hi; exact hi
  yld := fun i m1 g1 H1 x H' d e1 s1 sm hd hy => by
    obtain ⟨rfl, c, hc, rfl⟩ := hy
    unfold signs at hd
    rw [List.getElem?_map, Array.getElem?_toList, hc] at hd
    simp at hd
    subst hd
    refine ⟨s1, Ext.refl _ _, .str _ (sok_one hz ?_)⟩
    exact List.mem_of_getElem? (by rw [Array.getElem?_toList]; exact hc)
  stop := fun i m1 g1 H1 e1 s1 sm hi => by
    show z.cps.size ≤ i
    unfold signs at hi
    rw [List.length_map, Array.length_toList] at hi; exact hi
theorem rangeD_len (lo : Int) : ∀ n, (rangeD lo n).length = n := by
  intro n
  induction n generalizing lo with
  | zero => rfl
  | succ n ih => simp [rangeD, ih]
theorem rangeD_get : ∀ (n : Nat) (lo : Int) (i : Nat), i < n → (rangeD lo n)[i]? = some (.int (lo + i))
  | 0, _, _, h => absurd h (Nat.not_lt_zero _)
  | n + 1, lo, 0, _ => by simp [rangeD]
  | n + 1, lo, i + 1, h => by
    simp only [rangeD, List.getElem?_cons_succ]
    rw [rangeD_get n (lo + 1) i (by omega)]
    congr 2
    push_cast
    omega
theorem walk_range {lo : Int} {n : Nat} {m : Mem} {g : G} {H : Hp} (hn : n ≤ sizeLine) : WalkOk K (Itr lo n) (rangeD lo n) [] m g H where
  len := by rw [rangeD_len]; exact hn
  go := fun i m1 g1 H1 e1 s1 sm hi => by
    rw [rangeD_len] at hi; exact hi
  yld := fun i m1 g1 H1 x H' d e1 s1 sm hd hy => by
    obtain ⟨rfl, rfl⟩ := hy
    have hi : i < n := by
      have := (List.getElem?_eq_some_iff.mp hd).1
      rw [rangeD_len] at this; exact this
    rw [rangeD_get n lo i hi] at hd
    cases hd
    exact ⟨s1, Ext.refl _ _, .int _⟩
  stop := fun i m1 g1 H1 e1 s1 sm hi => by
    rw [rangeD_len] at hi; exact hi
theorem zipD_get : ∀ (xs ys : List PyData) (i : Nat) (d : PyData), (zipD xs ys)[i]? = some d → ∃ x y, xs[i]? = some x ∧ ys[i]? = some y ∧ d = .tuple [x, y]
  | [], _, _, _, h => by simp [zipD] at h
  | _ :: _, [], _, _, h => by simp [zipD] at h
  | x :: xs, y :: ys, 0, d, h => by
    simp [zipD] at h
    exact ⟨x, y, rfl, rfl, h.symm⟩
  | x :: xs, y :: ys, i + 1, d, h => by
    simp only [zipD, List.getElem?_cons_succ] at h
    obtain ⟨a, b, h1, h2, h3⟩ := zipD_get xs ys i d h
    exact ⟨a, b, by simpa using h1, by simpa using h2, h3⟩
theorem zipD_len : ∀ (xs ys : List PyData), (zipD xs ys).length = min xs.length ys.length
  | [], ys => by simp [zipD]
  | _ :: _, [] => by simp [zipD]
  | x :: xs, y :: ys => by
    simp only [zipD, List.length_cons, zipD_len xs ys]; omega
theorem same_app {gs gs' : List Nat} {m m' : Mem} (h : same (gs ++ gs') m m' = true) : same gs m m' = true ∧ same gs' m m' = true :=
  ⟨same_of fun k hk => same_at h (List.mem_append_left _ hk), same_of fun k hk => same_at h (List.mem_append_right _ hk)⟩
theorem walk_zip {a b : Addr} {ds es : List PyData} {gs gs' : List Nat} {m : Mem} {g : G} {H : Hp} (S : SimM K m g H) (h : SrcL K a ds gs m g H) (h' : SrcL K b es gs' m g H) (hr : same (gs ++ gs') m m = true) :
    WalkOk K (Itz K a b) (zipD ds es) (gs ++ gs') m g H where
  len := by
    obtain ⟨xs, h1, h2⟩ := h m g H (Ext.refl g H) S (same_app hr).1
    have := rd_len S h1
    rw [h2.length] at this
    rw [zipD_len]; omega
  go := fun i m1 g1 H1 e1 s1 sm hi => by
    obtain ⟨xs, h1, h2⟩ := h m1 g1 H1 e1 s1 (same_app sm).1
    obtain ⟨ys, h3, h4⟩ := h' m1 g1 H1 e1 s1 (same_app sm).2
    rw [zipD_len] at hi
    obtain ⟨x, hx, _⟩ := h2.get (List.getElem?_eq_getElem (show i < ds.length by omega))
    obtain ⟨y, hy, _⟩ := h4.get (List.getElem?_eq_getElem (show i < es.length by omega))
    exact ⟨xs, ys, x, y, .inl h1, .inl h3, hx, hy⟩
  yld := fun i m1 g1 H1 x H' d e1 s1 sm hd hy => by
    obtain ⟨T, x1, y1, rfl, nT, rfl, f1, f2⟩ := hy
    obtain ⟨xs, h1, h2⟩ := h m1 g1 H1 e1 s1 (same_app sm).1
    obtain ⟨ys, h3, h4⟩ := h' m1 g1 H1 e1 s1 (same_app sm).2
    obtain ⟨dx, dy, k1, k2, rfl⟩ := zipD_get ds es i d hd
    obtain ⟨x, hx, rx⟩ := h2.get k1
    obtain ⟨y, hy, ry⟩ := h4.get k2
    have q1 := f1 xs (.inl h1)
    have q2 := f2 ys (.inl h3)
    rw [hx] at q1; cases q1
    rw [hy] at q2; cases q2
    obtain ⟨a1, a2, a3⟩ := new_tup s1 nT (.cons rx (.cons ry .nil)) (by rw [sizeLine_eq]; show 2 ≤ 16777216; decide)
    exact ⟨a1, a2, a3⟩
  stop := fun i m1 g1 H1 e1 s1 sm hi => by
    obtain ⟨xs, h1, h2⟩ := h m1 g1 H1 e1 s1 (same_app sm).1
    obtain ⟨ys, h3, h4⟩ := h' m1 g1 H1 e1 s1 (same_app sm).2
    rw [zipD_len] at hi
    exact ⟨xs, ys, .inl h1, .inl h3, by rw [h2.length, h4.length]; omega⟩
theorem walk_zipT {a b : Addr} {xs ys : List V} {ds es : List PyData} {m : Mem} {g : G} {H : Hp} (S : SimM K m g H) (h : SqT K H a xs) (h2 : RpAll K g.F H xs ds) (h' : SqT K H b ys) (h4 : RpAll K g.F H ys es) :
    WalkOk K (RZ.ItzT K a b) (zipD ds es) [] m g H where
  len := by
    have := sq_len S h
    rw [h2.length] at this
    rw [zipD_len]; omega
  go := fun i m1 g1 H1 e1 s1 sm hi => by
    rw [zipD_len] at hi
    obtain ⟨x, hx, _⟩ := h2.get (List.getElem?_eq_getElem (show i < ds.length by omega))
    obtain ⟨y, hy, _⟩ := h4.get (List.getElem?_eq_getElem (show i < es.length by omega))
    exact ⟨xs, ys, x, y, SqT.ext e1 h, SqT.ext e1 h', hx, hy⟩
  yld := fun i m1 g1 H1 x H' d e1 s1 sm hd hy => by
    obtain ⟨T, x1, y1, rfl, nT, rfl, f1, f2⟩ := hy
    obtain ⟨dx, dy, k1, k2, rfl⟩ := zipD_get ds es i d hd
    obtain ⟨x, hx, rx⟩ := h2.get k1
    obtain ⟨y, hy, ry⟩ := h4.get k2
    have q1 := f1 xs (SqT.ext e1 h)
    have q2 := f2 ys (SqT.ext e1 h')
    rw [hx] at q1; cases q1
    rw [hy] at q2; cases q2
    obtain ⟨a1, a2, a3⟩ := new_tup s1 nT (.cons (Rp.ext e1 _ rx) (.cons (Rp.ext e1 _ ry) .nil)) (by rw [sizeLine_eq]; show 2 ≤ 16777216; decide)
    exact ⟨a1, a2, a3⟩
  stop := fun i m1 g1 H1 e1 s1 sm hi => by
    rw [zipD_len] at hi
    exact ⟨xs, ys, SqT.ext e1 h, SqT.ext e1 h', by rw [h2.length, h4.length]; omega⟩
theorem enumD_get : ∀ (n : Nat) (xs : List PyData) (i : Nat) (d : PyData), (enumD n xs)[i]? = some d → ∃ x, xs[i]? = some x ∧ d = .tuple [.int ((n + i : Nat) : Int), x]
  | _, [], _, _, h => by simp [enumD] at h
  | n, x :: xs, 0, d, h => by
    simp [enumD] at h
    exact ⟨x, rfl, by rw [← h]; simp⟩
  | n, x :: xs, i + 1, d, h => by
    simp only [enumD, List.getElem?_cons_succ] at h
    obtain ⟨a, h1, h3⟩ := enumD_get (n + 1) xs i d h
    exact ⟨a, by simpa using h1, by rw [h3]; congr 3; omega⟩
theorem enumD_len : ∀ (n : Nat) (xs : List PyData), (enumD n xs).length = xs.length
  | _, [] => rfl
  | n, x :: xs => by simp [enumD, enumD_len (n + 1) xs]
theorem walk_enum {a : Addr} {ds : List PyData} {gs : List Nat} {m : Mem} {g : G} {H : Hp} (S : SimM K m g H) (h : SrcL K a ds gs m g H) (hr : same gs m m = true) : WalkOk K (Ite K a) (enumD 0 ds) gs m g H where
  len := by
    obtain ⟨xs, h1, h2⟩ := h m g H (Ext.refl g H) S hr
    rw [enumD_len, ← h2.length]; exact rd_len S h1
  go := fun i m1 g1 H1 e1 s1 sm hi => by
    obtain ⟨xs, h1, h2⟩ := h m1 g1 H1 e1 s1 sm
    rw [enumD_len] at hi
    obtain ⟨x, hx, _⟩ := h2.get (List.getElem?_eq_getElem hi)
    exact ⟨xs, x, .inl h1, hx⟩
  yld := fun i m1 g1 H1 x H' d e1 s1 sm hd hy => by
    obtain ⟨T, x1, rfl, nT, rfl, f1⟩ := hy
    obtain ⟨xs, h1, h2⟩ := h m1 g1 H1 e1 s1 sm
    obtain ⟨dx, k1, rfl⟩ := enumD_get 0 ds i d hd
    obtain ⟨x, hx, rx⟩ := h2.get k1
    have q1 := f1 xs (.inl h1)
    rw [hx] at q1; cases q1
    rw [Nat.zero_add]
    obtain ⟨a1, a2, a3⟩ := new_tup s1 nT (.cons (.int _) (.cons rx .nil)) (by rw [sizeLine_eq]; show 2 ≤ 16777216; decide)
    exact ⟨a1, a2, a3⟩
  stop := fun i m1 g1 H1 e1 s1 sm hi => by
    obtain ⟨xs, h1, h2⟩ := h m1 g1 H1 e1 s1 sm
    rw [enumD_len] at hi
    exact ⟨xs, .inl h1, by rw [h2.length]; exact hi⟩
end
end Ra


set_option Elab.async false
set_option linter.all false
set_option autoImplicit false
set_option maxRecDepth 100000
/-! what is walked, as an expression; comprehensions; loops -/
namespace Ra
open PySem PySem.Spec PyProof.Rows L2
section
variable {X : Cx} {tg e : Expr} {es : List Expr} {p : P} {ps : List P} {pos : Pos}
theorem srcR_one {K : PySem.W.Frag} {k : Sk} {env : Env} {m : Mem} {g : G} {H : Hp} {Q : (List PyData × List Nat) → Mem → G → Hp → Prop} (h : Rz K (srcR k [p] env m) g H Q) :
    Rz K (p.v env m) g H fun v m1 g1 H1 => ∃ x is, rd m1 v.nf = some x ∧ walk k [x] = some is ∧ Rz K (.ok (is, guards [v.nf]) m1) g1 H1 Q := by
  unfold srcR at h
  simp only [cArgs] at h
  cases hv : p.v env m with
  | fail => rw [hv] at h; exact h.elim
  | exc a b => rw [hv] at h; exact h.elim
  | ok v m1 =>
    rw [hv] at h
    simp only [Res.bind_ok] at h
    intro g1 H1 e1 s1
    obtain ⟨xs, hx, h2⟩ := Rz.optBind (h.ext e1)
    obtain ⟨is, hi, h3⟩ := Rz.optBind h2
    clear h h2
    simp only [lookAll] at hx
    cases hr : rd m1 v.nf with
    | none => rw [hr] at hx; cases hx
    | some x =>
      rw [hr] at hx
      cases hx
      exact ⟨x, is, rfl, hi, h3⟩
theorem pi_seqR (ha : PE X e (tE X.K p.v)) : PI X tg e (iS X.K (srcR .seq [p])) := by
  refine PI.weak (PI.or (pi_list ha) (PI.or (pi_tup ha) (pi_str ha))) fun σ H R ⟨env, m, g, hs, hm, hz⟩ => ?_
  have hz' := srcR_one hz
  cases hv : p.v env m with
  | fail => rw [hv] at hz'; exact hz'.elim
  | exc a b => rw [hv] at hz'; exact hz'.elim
  | ok v m1 =>
    rw [hv] at hz'
    by_cases hd : ∃ x, rd m1 v.nf = some x
    · obtain ⟨d, hd⟩ := hd
      cases d with
      | list ds =>
        refine .inl ⟨env, m, g, hs, hm, ?_⟩
        rw [hv]
        intro g1 H1 e1 s1 x rx
        obtain ⟨y, is, h1, h2, h3⟩ := hz' g1 H1 e1 s1
        rw [hd] at h1; cases h1
        cases h2
        obtain ⟨g2, s2, e2, r2⟩ := s1.hold rx
        obtain ⟨a, rfl, h4, h5⟩ := src_list s2 (nf_ne v) r2 hd
        obtain ⟨xs, h6, _⟩ := h4 m1 g2 H1 (Ext.refl _ _) s2 h5
        exact ⟨a, rfl, ⟨xs, .inl h6⟩, Rz.ok_now (h3.ext e2) s2 _ (walk_list s2 h4 h5) h5⟩
      | tuple ds =>
        refine .inr (.inl ⟨env, m, g, hs, hm, ?_⟩)
        rw [hv]
        intro g1 H1 e1 s1 x rx
        obtain ⟨y, is, h1, h2, h3⟩ := hz' g1 H1 e1 s1
        rw [hd] at h1; cases h1
        cases h2
        obtain ⟨g2, s2, e2, r2⟩ := s1.hold rx
        obtain ⟨a, xs, rfl, h4, h5, h6⟩ := src_tup (nf_ne v) r2 hd
        rw [h6] at h3
        exact ⟨a, rfl, ⟨xs, h4⟩, Rz.ok_now (h3.ext e2) s2 _ (walk_tup s2 h4 h5) rfl⟩
      | str z =>
        refine .inr (.inr ⟨env, m, g, hs, hm, ?_⟩)
        rw [hv]
        intro g1 H1 e1 s1 x rx
        obtain ⟨y, is, h1, h2, h3⟩ := hz' g1 H1 e1 s1
        rw [hd] at h1; cases h1
        cases h2
        obtain ⟨g2, s2, e2, r2⟩ := s1.hold rx
        obtain ⟨rfl, h5, h6⟩ := src_str (nf_ne v) r2 hd
        rw [h6] at h3
        exact ⟨z, rfl, Rz.ok_now (h3.ext e2) s2 _ (walk_str h5) rfl⟩
      | none | bool _ | int _ | dict _ =>
        refine .inl ⟨env, m, g, hs, hm, ?_⟩
        rw [hv]
        intro g1 H1 e1 s1 x rx
        obtain ⟨y, is, h1, h2, h3⟩ := hz' g1 H1 e1 s1
        rw [hd] at h1; cases h1
        cases h2
    · refine .inl ⟨env, m, g, hs, hm, ?_⟩
      rw [hv]
      intro g1 H1 e1 s1 x rx
      obtain ⟨y, is, h1, _⟩ := hz' g1 H1 e1 s1
      exact absurd ⟨y, h1⟩ hd
theorem guards_d {m : Mem} {i : Int} {v : Val} (h : rd m v = some (.int i)) (hf : ∀ xs, v ≠ .fr xs) : guards [v] = [] := by
  cases v with
  | d _ => rfl
  | fr xs => exact absurd rfl (hf xs)
  | mr k =>
    cases hm : m[k]? with
    | none => simp [rd, hm] at h
    | some c => simp [rd, hm] at h
theorem pi_rangeR {q : Pos} (hg : Gl X "range") (hm : X.mg "range" = none) (ha : PE X e (tE X.K p.v)) (ns : notStar e = true) : PI X tg (.Call (.Name "range" q) [e] [] pos) (iS X.K (srcR .range [p])) := by
  refine PI.weak (pi_range1 hg hm (pa_cons ha pa_nil (star1 ns _ _)) (by rw [star1 ns]; rfl)) fun σ H R ⟨env, m, g, hs, hm, hz⟩ => ?_
  refine ⟨env, m, g, hs, hm, (srcR_one hz).mono fun v m1 g1 H1 e1 s1 ⟨d, is, h1, h2, h3⟩ x rx => ?_⟩
  obtain ⟨g2, s2, e2, r2⟩ := s1.hold rx
  unfold walk at h2
  split at h2 <;> first | contradiction | skip
  rename_i n heq1 heq2
  have hd : d = .int n := by simpa using heq2
  subst hd
  split at h2
  · rename_i hb
    cases h2
    have ex := (s2.read (nf_ne v) r2 h1).int
    subst ex
    rw [guards_d h1 (nf_ne v)] at h3
    refine ⟨n, rfl, by omega, by omega, Rz.ok_now (h3.ext e2) s2 _ (walk_range ?_) rfl⟩
    rw [sizeLine_eq]; omega
  · cases h2
theorem cArgs_two {K : PySem.W.Frag} {p p' : P} {env : Env} {m : Mem} {g : G} {H : Hp} {k : Sk} {Q : (List PyData × List Nat) → Mem → G → Hp → Prop} (h : Rz K (srcR k [p, p'] env m) g H Q) :
    Rz K (cArgs [p, p'] env m) g H fun vs m1 g1 H1 => ∃ v v' x y is, vs = [v, v'] ∧ rd m1 v = some x ∧ rd m1 v' = some y ∧ walk k [x, y] = some is ∧ Rz K (.ok (is, guards [v, v']) m1) g1 H1 Q := by
  unfold srcR at h
  cases hv : cArgs [p, p'] env m with
  | fail => rw [hv] at h; exact h.elim
  | exc a b => rw [hv] at h; exact h.elim
  | ok vs m1 =>
    rw [hv] at h
    simp only [Res.bind_ok] at h
    intro g1 H1 e1 s1
    obtain ⟨xs, hx, h2⟩ := Rz.optBind (h.ext e1)
    obtain ⟨is, hi, h3⟩ := Rz.optBind h2
    clear h h2
    have hvs : ∃ v v', vs = [v, v'] := by
      simp only [cArgs] at hv
      cases h1 : p.v env m with
      | fail => rw [h1] at hv; simp at hv
      | exc a b => rw [h1] at hv; simp at hv
      | ok a b =>
        rw [h1] at hv; simp only [Res.bind_ok] at hv
        cases h2 : p'.v env b with
        | fail => rw [h2] at hv; simp at hv
        | exc a b => rw [h2] at hv; simp at hv
        | ok c d =>
          rw [h2] at hv; simp only [Res.bind_ok, Res.ok.injEq] at hv
          exact ⟨_, _, hv.1.symm⟩
    obtain ⟨v, v', rfl⟩ := hvs
    simp only [lookAll] at hx
    cases hr : rd m1 v with
    | none => rw [hr] at hx; simp at hx
    | some x =>
      cases hr' : rd m1 v' with
      | none => rw [hr, hr'] at hx; simp at hx
      | some y =>
        rw [hr, hr'] at hx
        simp at hx
        subst hx
        exact ⟨v, v', x, y, is, rfl, hr, hr', hi, h3⟩
theorem guards_app (v v' : Val) : guards [v, v'] = guards [v] ++ guards [v'] := by
  cases v <;> rfl
theorem pi_zipR {e' : Expr} {p' : P} {q tpos : Pos} {elts : List Expr} {kk : Nat} (hg : Gl X "zip") (hm : X.mg "zip" = none) (ha : PE X e (tE X.K p.v)) (hb : PE X e' (tE X.K p'.v)) (ns : notStar e = true) (ns' : notStar e' = true) :
    PI X (.Tuple elts kk tpos) (.Call (.Name "zip" q) [e, e'] [] pos) (iS X.K (srcR .zip [p, p'])) := by
  refine PI.weak (RZ.pi_zipA hg hm (pa_args_cons ha (pa_args_cons hb pa_args_nil ns') ns) (star1 ns _ _) (star_plain _ _ _ (by simp [ns']))) fun σ H R ⟨env, m, g, hs, hm, hz⟩ => ?_
  refine ⟨env, m, g, hs, hm, (cArgs_two hz).mono fun vs m1 g1 H1 e1 s1 hq xs rxs => ?_⟩
  obtain ⟨v, v', x, y, is, rfl, h1, h2, h3, h4⟩ := hq
  cases rxs with
  | cons r hf t =>
    cases t with
    | cons r' hf' t' =>
      cases t'
      unfold walk at h3
      split at h3 <;> first | contradiction | skip
      · rename_i ds es heq1 heq2
        obtain ⟨rfl, rfl⟩ : x = .list ds ∧ y = .list es := by simpa using heq2
        cases h3
        obtain ⟨a, rfl, k1, k2⟩ := src_list s1 hf r h1
        obtain ⟨b, rfl, k3, k4⟩ := src_list s1 hf' r' h2
        have hr : same (guards [v] ++ guards [v']) m1 m1 = true := same_of fun k hk => by
          rcases List.mem_append.mp hk with hk | hk
          · exact same_at k2 hk
          · exact same_at k4 hk
        obtain ⟨xs, k5, _⟩ := k1 m1 g1 H1 (Ext.refl _ _) s1 k2
        obtain ⟨ys, k6, _⟩ := k3 m1 g1 H1 (Ext.refl _ _) s1 k4
        rw [guards_app] at h4
        exact ⟨a, b, xs, ys, rfl, .inl ⟨.inl k5, .inl k6, Rz.ok_now h4 s1 _ (walk_zip s1 k1 k3 hr) hr⟩⟩
      · rename_i ds es heq1 heq2
        obtain ⟨rfl, rfl⟩ : x = .tuple ds ∧ y = .tuple es := by simpa using heq2
        cases h3
        obtain ⟨a, xs, rfl, k1, k2, k3⟩ := src_tup hf r h1
        obtain ⟨b, ys, rfl, k4, k5, k6⟩ := src_tup hf' r' h2
        rw [guards_app, k3, k6] at h4
        exact ⟨a, b, xs, ys, rfl, .inr ⟨k1, k4, Rz.ok_now h4 s1 _ (walk_zipT s1 k1 k2 k4 k5) rfl⟩⟩
theorem pi_enumR {q tpos : Pos} {elts : List Expr} {kk : Nat} (hg : Gl X "enumerate") (hm : X.mg "enumerate" = none) (ha : PE X e (tE X.K p.v)) (ns : notStar e = true) :
    PI X (.Tuple elts kk tpos) (.Call (.Name "enumerate" q) [e] [] pos) (iS X.K (srcR .enum [p])) := by
  refine PI.weak (pi_enum hg hm (pa_cons ha pa_nil (star1 ns _ _)) (by rw [star1 ns]; rfl)) fun σ H R ⟨env, m, g, hs, hm, hz⟩ => ?_
  refine ⟨env, m, g, hs, hm, (srcR_one hz).mono fun v m1 g1 H1 e1 s1 ⟨d, is, h1, h2, h3⟩ x rx => ?_⟩
  obtain ⟨g2, s2, e2, r2⟩ := s1.hold rx
  unfold walk at h2
  split at h2 <;> first | contradiction | skip
  rename_i ds heq1 heq2
  have hd : d = .list ds := by simpa using heq2
  subst hd
  cases h2
  obtain ⟨a, rfl, k1, k2⟩ := src_list s2 (nf_ne v) r2 h1
  obtain ⟨xs, k5, _⟩ := k1 m1 g2 H1 (Ext.refl _ _) s2 k2
  exact ⟨a, xs, rfl, .inl k5, Rz.ok_now (h3.ext e2) s2 _ (walk_enum s2 k1 k2) k2⟩
end
end Ra


set_option Elab.async false
set_option linter.all false
set_option autoImplicit false
set_option maxRecDepth 100000
/-! comprehensions and loops -/
namespace Ra
open PySem PySem.Spec PyProof.Rows L2
section
variable {K : PySem.W.Frag} {m m' : Mem} {g g' : G} {H H' : Hp} {D : Addr} {acc : List V}
theorem prot (S : SimM K m g H) (hD : H D = some (.lst acc)) (nF : ¬ g.F D) (nA : D ∉ g.ad) : SimM K m (g.hold D) H :=
  ⟨S.fs, S.len, S.nd, S.cell, S.sz, fun a h => by
    rcases h with rfl | h
    · exact ⟨_, hD⟩
    · exact S.prs a h, fun a h => by
    rcases h with rfl | h
    · exact nF
    · exact S.prF a h, fun a h => by
    rcases h with rfl | h
    · exact nA
    · exact S.prA a h⟩
theorem unprot (S : SimM K m' g' H') (e : Ext (g.hold D) H g' H') : SimM K m' (g'.back g.pr) H' ∧ Ext g H (g'.back g.pr) H' ∧ H' D = H D ∧ ¬ g'.F D ∧ D ∉ g'.ad := by
  have hp : ∀ a, g.pr a → g'.pr a := fun a h => by rw [e.pre]; exact .inr h
  have hD : g'.pr D := by rw [e.pre]; exact .inl rfl
  exact ⟨⟨S.fs, S.len, S.nd, S.cell, S.sz, fun a h => S.prs a (hp a h), fun a h => S.prF a (hp a h), fun a h => S.prA a (hp a h)⟩,
    ⟨e.sub, e.fix, e.tup, e.frz, e.ads, rfl, fun a h => e.keep a (.inr h)⟩, e.keep D (.inl rfl), S.prF D hD, S.prA D hD⟩
theorem up_own {ws : List V} (S : SimM K m g H) (hD : H D = some (.lst acc)) (nF : ¬ g.F D) (nA : D ∉ g.ad) (nP : ¬ g.pr D) (hz : ws.length ≤ sizeLine) : SimM K m g (upd H D (.lst ws)) ∧ Ext g H g (upd H D (.lst ws)) := by
  have e : Ext g H g (upd H D (.lst ws)) := ⟨fun _ h => h, fun b hb => by
    have z : b ≠ D := fun z => nF (by rw [← z]; exact hb)
    rw [upd_ne z], fun b xs hb => by rw [upd_ne (ne_of hb hD (by intro z; cases z))]; exact hb, fun b o u hb => by rw [upd_ne (ne_of hb hD (by intro z; cases z))]; exact hb, ⟨[], by simp⟩, rfl, fun b hb => by
    have z : b ≠ D := fun z => nP (by rw [← z]; exact hb)
    rw [upd_ne z]⟩
  refine ⟨⟨fun b hb => ?_, S.len, S.nd, fun k c b h1 h2 => ?_, fun b xs hb => ?_, fun b hb => ?_, S.prF, S.prA⟩, e⟩
  · obtain ⟨xs, z⟩ := S.fs b hb
    exact ⟨xs, (e.fix b hb).trans z⟩
  · obtain ⟨us, p', q', r', t'⟩ := S.cell k c b h1 h2
    have nb : b ≠ D := fun z => nA (by rw [← z]; exact List.mem_of_getElem? h2)
    exact ⟨us, by rw [upd_ne nb]; exact p', RpAll.ext e _ q', r', t'⟩
  · by_cases hb' : b = D
    · subst hb'
      rw [upd_same] at hb
      rcases hb with z | z | ⟨_, z⟩ | ⟨_, z⟩
      · cases z; exact hz
      · cases z
      · cases z
      · cases z
    · rw [upd_ne hb'] at hb
      exact S.sz b xs hb
  · obtain ⟨o', q'⟩ := S.prs b hb
    exact ⟨o', (e.keep b hb).trans q'⟩
theorem Sg.pr {env : Env} {σ : L2.St} {F : Addr → Prop} {ad : List Addr} {pr pr' : Addr → Prop} (s : Sg K env σ ⟨F, ad, pr⟩ H) : Sg K env σ ⟨F, ad, pr'⟩ H := ⟨s.len, fun i v h => by
  obtain ⟨x, h1, h2, h3⟩ := s.at_ i v h
  refine ⟨x, h1, ?_, h3⟩
  cases v with
  | d _ => exact h2
  | fr xs => exact absurd rfl (h3 xs)
  | mr _ => exact h2⟩
end
theorem wipe_get (σ : L2.St) (i : Nat) : ∀ vs : List Nat, (L2.wipe σ vs)[i]? = if i ∈ vs then (σ[i]?).map (fun _ => none) else σ[i]?
  | [] => by simp [L2.wipe]
  | v :: vs => by
    show ((L2.wipe σ vs).set v none)[i]? = _
    rw [List.getElem?_set]
    by_cases h : v = i
    · subst h
      rw [if_pos rfl, wipe_length]
      by_cases h2 : v < σ.length
      · simp [h2]
      · simp [h2]
    · rw [if_neg h, wipe_get σ i vs]
      have : (i ∈ v :: vs) ↔ i ∈ vs := by
        simp [Ne.symm h]
      simp [this]
theorem wipe_wipe (σ : L2.St) (vs : List Nat) : L2.wipe (L2.wipe σ vs) vs = L2.wipe σ vs := by
  apply List.ext_getElem?
  intro i
  rw [wipe_get, wipe_get]
  by_cases h : i ∈ vs
  · rw [if_pos h, if_pos h, Option.map_map]; rfl
  · rw [if_neg h]
section
variable {X : Cx} {K : PySem.W.Frag}
/-- the loop of a comprehension, behind its source -/
theorem lc_loop {t : Tg} {ps : List P} {elt : P} {own : List Nat} {J : It} {is : List PyData} {gs : List Nat} {env : Env} {m0 : Mem} {g0 : G} {H0 : Hp} {σ : L2.St} {Q : VK} (hs : Sg K env σ g0 H0) (S0 : SimM K m0 g0 H0)
    (W : WalkOk K J is gs m0 g0 H0) (hr : same gs m0 m0 = true) (hsl : ∀ i ∈ slots t, i ∈ own) (hz : Rz K ((lcLoop t ps elt gs (wipe env own) is m0).bind fun ys m2 => .ok (.fr ys) m2) g0 H0 (Ans K Q)) :
    ∀ D, H0 D = none → ∃ W : Nat → Nat → Hp → Prop, (∃ m, W 0 m (upd H0 D (.lst []))) ∧ ∀ i m H, W i m H → (J.stop i H ∧ Q (.ref D) H) ∨ (J.go i H ∧ ∃ Nx : Hp → Prop, (∀ H', Nx H' → ∃ m', m' < m ∧ W (i + 1) m' H') ∧
      ∀ x H', J.yld i H x H' → gT K t x (L2.wipe σ own) H' fun σ2 H2 => L2.wipe σ2 own = L2.wipe σ own ∧ tT K (tAll ps) σ2 H2 fun b H3 =>
        if b = true then tE K elt.v σ2 H3 fun y H4 => ∃ acc, H4 D = some (.lst acc) ∧ acc.length < sizeLine ∧ Nx (upd H4 D (.lst (acc ++ [y]))) else Nx H3) := by
  intro D hD
  refine ⟨fun i n H => ∃ (m : Mem) (g : G) (acc : List V) (ys : List PyData), i + n = is.length ∧ Ext g0 H0 g H ∧ SimM K m g H ∧ same gs m0 m = true ∧ H D = some (.lst acc) ∧ RpAll K g.F H acc ys ∧ ¬ g.F D ∧ D ∉ g.ad ∧ ¬ g.pr D ∧ acc.length ≤ i ∧
      Rz K (lcLoop t ps elt gs (wipe env own) (is.drop i) m) g H fun zs m' g' H' => ∀ x, RpV K g' H' x (.fr (ys ++ zs)) → Q x H', ⟨is.length, m0, g0, [], [], ?_⟩, fun i n H hW => ?_⟩
  · have e1 := ext_new (o := .lst []) S0 hD
    refine ⟨by omega, e1, sim_new S0 hD (Nat.zero_le _), hr, upd_same, .nil, not_F S0 hD, not_ad S0 hD, not_pr S0 hD, Nat.le_refl _, ?_⟩
    rw [List.drop_zero]
    exact ((Rz.bind hz).mono fun ys m2 g2 H2 e2 s2 z2 => Rz.ok_now z2 s2).ext e1
  · obtain ⟨m, g, acc, ys, hn, e, S, sm, hA, hR, nF, nA, nP, hl, hZ⟩ := hW
    by_cases hi : i < is.length
    · have hdi : is[i]? = some is[i] := List.getElem?_eq_getElem hi
      have hdrop : is.drop i = is[i] :: is.drop (i + 1) := List.drop_eq_getElem_cons hi
      rw [hdrop] at hZ
      simp only [lcLoop] at hZ
      refine .inr ⟨W.go i m g H e.toBack S sm hi, fun H' => ∃ (m : Mem) (g : G) (acc : List V) (ys : List PyData), Ext g0 H0 g H' ∧ SimM K m g H' ∧ same gs m0 m = true ∧ H' D = some (.lst acc) ∧ RpAll K g.F H' acc ys ∧ ¬ g.F D ∧ D ∉ g.ad ∧ ¬ g.pr D ∧ acc.length ≤ i + 1 ∧
        Rz K (lcLoop t ps elt gs (wipe env own) (is.drop (i + 1)) m) g H' fun zs m' g' H' => ∀ x, RpV K g' H' x (.fr (ys ++ zs)) → Q x H', fun H' hN => ?_, fun x H' hy => ?_⟩
      · obtain ⟨m', g', acc', ys', a1, a2, a3, a4, a5, a6, a7, a8, a9, a10⟩ := hN
        exact ⟨n - 1, by omega, m', g', acc', ys', by omega, a1, a2, a3, a4, a5, a6, a7, a8, a9, a10⟩
      · obtain ⟨S1, e1, r1⟩ := W.yld i m g H x H' is[i] e.toBack S sm hdi hy
        have hs1 : Sg K (wipe env own) (L2.wipe σ own) g H' := ((hs.ext e).ext e1).wipe own
        have hZ1 := hZ.ext e1
        cases ha : asg t is[i] (wipe env own) with
        | none => rw [ha] at hZ1; exact hZ1.elim
        | some env' =>
          rw [ha] at hZ1
          refine ⟨_, g, _, env', hs1, r1, ha, fun σ2 hs2 w2 => ⟨?_, ?_⟩⟩
          · rw [w2 own hsl]
            exact wipe_wipe σ own
          · have hA1 : H' D = some (.lst acc) := by
              have q := (W.yld i m (g.hold D) H x H' is[i] ⟨e.sub, e.fix, e.tup, e.frz, e.ads, rfl, e.keep⟩ (prot S hA nF nA) sm hdi hy).2.1.keep D (.inl rfl)
              exact q.trans hA
            have hR1 := RpAll.ext e1 _ hR
            have S2 := prot S1 hA1 nF nA
            have hz1 : Rz K ((tAll ps env' m).bind fun b m1 => if b = true then (elt.v env' m1).bind fun v m2 => (frz v m2).bind fun y m3 =>
                if same gs m m3 = true then (lcLoop t ps elt gs (wipe env own) (is.drop (i + 1)) m3).bind fun ys m4 => .ok (y :: ys) m4 else .fail
              else if same gs m m1 = true then lcLoop t ps elt gs (wipe env own) (is.drop (i + 1)) m1 else .fail) g H' fun zs m' g' H' => ∀ x, RpV K g' H' x (.fr (ys ++ zs)) → Q x H' := hZ1
            have hz00 := hz1
            refine ⟨env', m, g.hold D, Sg.pr hs2, S2, ?_⟩
            cases ht : tAll ps env' m with
            | fail => rw [ht] at hz1; exact hz1.elim
            | exc a b => rw [ht] at hz1; exact hz1.elim
            | ok b m1 =>
              rw [ht, Res.bind_ok] at hz1
              intro g2 H2 e2 s2
              obtain ⟨s2', e2', hD2, nF2, nA2⟩ := unprot s2 e2
              have hA2 : H2 D = some (.lst acc) := hD2.trans hA1
              have hz2 := hz1.ext e2'
              cases b with
              | false =>
                simp only [Bool.false_eq_true, if_false] at hz2 ⊢
                split at hz2
                · rename_i hsm
                  exact ⟨m1, _, acc, ys, (e.trans e1).trans e2', s2', same_trans sm hsm, hA2, RpAll.ext e2' _ hR1, nF2, nA2, nP, by omega, hz2⟩
                · exact hz2.elim
              | true =>
                simp only [if_true] at hz2 ⊢
                refine ⟨env', m1, g2, (Sg.pr hs2).ext e2, s2, ?_⟩
                cases hv : elt.v env' m1 with
                | fail => rw [hv] at hz2; exact hz2.elim
                | exc a b => rw [hv] at hz2; exact hz2.elim
                | ok v m2 =>
                  rw [hv, Res.bind_ok] at hz2
                  intro g3 H3 e3 s3 y ry
                  cases hf : frz v m2 with
                  | fail => rw [hf] at hz2; exact hz2.elim
                  | exc a b => rw [hf] at hz2; exact hz2.elim
                  | ok d m3 =>
                    rw [hf, Res.bind_ok] at hz2
                    obtain ⟨g4, s4, e4, r4⟩ := s3.frz ry hf
                    obtain ⟨s4', e4', hD4, nF4, nA4⟩ := unprot s4 ((e2.trans e3).trans e4)
                    have hA4 : H3 D = some (.lst acc) := hD4.trans hA1
                    split at hz2
                    · rename_i hsm
                      have hlt : acc.length < sizeLine := Nat.lt_of_le_of_lt hl (Nat.lt_of_lt_of_le hi W.len)
                      have r4' : Rp K (g4.back g.pr).F H3 y d := r4
                      have hR4 := RpAll.ext e4' _ hR1
                      have hz : (acc ++ [y]).length ≤ sizeLine := by simp; omega
                      obtain ⟨s5, e5⟩ := up_own (ws := acc ++ [y]) s4' hA4 nF4 nA4 nP hz
                      refine ⟨acc, hA4, hlt, m3, g4.back g.pr, acc ++ [y], ys ++ [d], ((e.trans e1).trans e4').trans e5, s5, same_trans sm hsm, upd_same, RpAll.ext e5 _ (hR4.append (.cons r4' .nil)), nF4, nA4, nP, by simp; omega, ?_⟩
                      have hz3 : Rz K ((lcLoop t ps elt gs (wipe env own) (is.drop (i + 1)) m3).bind fun ys m4 => .ok (d :: ys) m4) g H' fun zs m' g' H' => ∀ x, RpV K g' H' x (.fr (ys ++ zs)) → Q x H' := by
                        rw [ht, Res.bind_ok, if_pos rfl, hv, Res.bind_ok, hf, Res.bind_ok, if_pos hsm] at hz00
                        exact hz00
                      refine ((Rz.bind hz3).ext (e4'.trans e5)).mono fun zs m6 g6 H6 e6 s6 z6 x rx => ?_
                      have q := Rz.ok_now z6 s6 x
                      rw [List.append_assoc] at rx
                      exact q rx
                    · exact hz2.elim
    · have hlen : i = is.length := by omega
      subst hlen
      refine .inl ⟨W.stop _ m g H e.toBack S sm (Nat.le_refl _), ?_⟩
      rw [List.drop_length] at hZ
      simp only [lcLoop] at hZ
      have q := Rz.ok_now hZ S (.ref D)
      rw [List.append_nil] at q
      exact q ⟨D, acc, rfl, hA, hR, nF, nA, nP⟩
end
end Ra


set_option Elab.async false
set_option linter.all false
set_option autoImplicit false
set_option maxRecDepth 100000
/-! statements by the evaluator -/
namespace Ra
open PySem PySem.Spec PyProof.Rows L2
section
variable {X : Cx} {tg e : Expr} {es : List Expr} {p : P} {ps : List P} {pos : Pos}
/-! comprehensions as expressions -/
def notSet : Expr → Bool
  | .Set _ _ _ => false
  | _ => true
theorem not_folded {e : Expr} (h : notSet e = true) (env : PySem.Env) (x : Value) : foldedSetIterable e env x = pure x := by
  cases e <;> first | rfl | (cases h; done)
theorem pts_nilR : PTs X [] (tT X.K (tAll [])) := ⟨fun pins s σ H Q I ⟨env, m, g, hs, hm, hz⟩ => pts_nil.run pins s σ H Q I (Rz.ok_now hz hm)⟩
theorem pts_oneR (h : PT X e (tT X.K p.t)) : PTs X [e] (tT X.K (tAll [p])) := ⟨fun pins s σ H Q I ⟨env, m, g, hs, hm, hz⟩ => (pts_one h).run pins s σ H Q I ⟨env, m, g, hs, hm, (Rz.bind hz).mono fun b m1 g1 H1 e1 s1 z1 => by
  cases b with
  | true => exact Rz.ok_now z1 s1
  | false => exact Rz.ok_now z1 s1⟩⟩
theorem lc_ok {K : PySem.W.Frag} {own : List Nat} {t : Tg} {k : Sk} {src tests : List P} {elt : P} (hsl : ∀ i ∈ slots t, i ∈ own) {σ : L2.St} {H : Hp} {Q : VK} (h : tE K (cLc own t k src tests elt) σ H Q) :
    tLc (iS K (srcR k src)) (gT K t) (tT K (tAll tests)) (tE K elt.v) own σ H Q := by
  obtain ⟨env, m, g, hs, hm, hz⟩ := h
  refine ⟨env, m, g, hs, hm, (Rz.bind hz).mono fun q m1 g1 H1 e1 s1 z1 J hJ hr => ?_⟩
  exact lc_loop (hs.ext e1) s1 hJ hr hsl z1
theorem pe_lcR {elt iter : Expr} {ifs : List Expr} {scope : Scope} {own : List (Str × Nat)} {t : Tg} {k : Sk} {src tests : List P} {pe : P} (hc : X.calm = true) (hN : X.N.Nodup) (hi : PI X tg iter (iS X.K (srcR k src))) (ok : BlkOk X.N X.env.scope scope own)
    (hg : ∀ (s : Shared) (H : Hp) (C : Addr) (cl : List (Str × Addr)) (fp : List Addr), PG (X.blk s H scope (compEnvC scope cl C X.env) fp) tg (gT X.K t))
    (ht : ∀ (s : Shared) (H : Hp) (C : Addr) (cl : List (Str × Addr)) (fp : List Addr), PTs (X.blk s H scope (compEnvC scope cl C X.env) fp) ifs (tT X.K (tAll tests)))
    (he : ∀ (s : Shared) (H : Hp) (C : Addr) (cl : List (Str × Addr)) (fp : List Addr), PE (X.blk s H scope (compEnvC scope cl C X.env) fp) elt (tE X.K pe.v)) (hs : notSet iter = true) (hsl : ∀ i ∈ slots t, i ∈ own.map (·.2)) :
    PE X (.ListComp elt [⟨tg, iter, ifs, 0⟩] scope pos) (tE X.K (cLc (own.map (·.2)) t k src tests pe)) :=
  PE.weak (pe_lc hc hN hi ok hg ht he (not_folded hs _)) fun _ _ _ h => lc_ok hsl h
/-! statements -/
def FlowQ (K : PySem.W.Frag) (D : Ends) : Flow → Mem → G → Hp → Prop
  | .next env, _, g, H => ∀ σ, Sg K env σ g H → D.nx σ H
  | .ret v, _, g, H => ∀ x, RpV K g H x v → D.rt x H
  | .brk env, _, g, H => ∀ σ, Sg K env σ g H → D.bk σ H
  | .cnt env, _, g, H => ∀ σ, Sg K env σ g H → D.ct σ H
def tS (K : PySem.W.Frag) (x : EX) : TS := fun D σ H => ∃ env m g, Sg K env σ g H ∧ SimM K m g H ∧ Rz K (x env m) g H (FlowQ K D)
theorem ps_badR (st : Stmt) : PS X st (tS X.K fun _ _ => .fail) := ⟨fun pins s σ H D I ⟨env, m, g, hs, hm, hz⟩ => hz.elim⟩
theorem pss_nilR : PSs X [] (tS X.K xNext) := PSs.weak pss_nil fun D σ H ⟨env, m, g, hs, hm, hz⟩ => Rz.ok_now hz hm σ hs
theorem pss_consR {st : Stmt} {rest : List Stmt} {x y : EX} (h1 : PS X st (tS X.K x)) (h2 : PSs X rest (tS X.K y)) : PSs X (st :: rest) (tS X.K (xSeq x y)) := by
  refine PSs.weak (pss_cons h1 h2) fun D σ H ⟨env, m, g, hs, hm, hz⟩ => ?_
  refine ⟨env, m, g, hs, hm, (Rz.bind hz).mono fun f m1 g1 H1 e1 s1 z1 => ?_⟩
  cases f with
  | next env' => exact fun σ' hs' => ⟨env', m1, g1, hs', s1, z1⟩
  | ret v => exact Rz.ok_now z1 s1
  | brk env' => exact Rz.ok_now z1 s1
  | cnt env' => exact Rz.ok_now z1 s1
theorem ps_passR : PS X (.Pass pos) (tS X.K xNext) := PS.weak ps_pass fun D σ H ⟨env, m, g, hs, hm, hz⟩ => Rz.ok_now hz hm σ hs
theorem ps_brkR : PS X (.Break pos) (tS X.K fun env m => .ok (.brk env) m) := PS.weak ps_break fun D σ H ⟨env, m, g, hs, hm, hz⟩ => Rz.ok_now hz hm σ hs
theorem ps_cntR : PS X (.Continue pos) (tS X.K fun env m => .ok (.cnt env) m) := PS.weak ps_continue fun D σ H ⟨env, m, g, hs, hm, hz⟩ => Rz.ok_now hz hm σ hs
theorem ps_retR (h : PE X e (tE X.K p.v)) : PS X (.Return (some e) pos) (tS X.K (xRet p)) := by
  refine PS.weak (ps_ret h) fun D σ H ⟨env, m, g, hs, hm, hz⟩ => ?_
  exact ⟨env, m, g, hs, hm, (Rz.bind hz).mono fun v m1 g1 H1 e1 s1 z1 => Rz.ok_now z1 s1⟩
theorem ps_retNR : PS X (.Return none pos) (tS X.K fun _ m => .ok (.ret (.d .none)) m) := PS.weak ps_retN fun D σ H ⟨env, m, g, hs, hm, hz⟩ => Rz.ok_now hz hm .non .non
theorem ps_exprR (h : PE X e (tE X.K p.v)) (hs : swapsWith e none pos.line X.env = pure false) : PS X (.Expr e pos) (tS X.K fun env m => (p.v env m).bind fun _ m1 => .ok (.next env) m1) := by
  refine PS.weak (ps_expr h hs) fun D σ H ⟨env, m, g, hs, hm, hz⟩ => ?_
  exact ⟨env, m, g, hs, hm, (Rz.bind hz).mono fun v m1 g1 H1 e1 s1 z1 x rx => Rz.ok_now z1 s1 σ (hs.ext e1)⟩
theorem ps_ifR {c : Expr} {a b : List Stmt} {pc : P} {xa xb : EX} (hc : PT X c (tT X.K pc.t)) (ha : PSs X a (tS X.K xa)) (hb : PSs X b (tS X.K xb)) : PS X (.If c a b pos) (tS X.K (xIf pc xa xb)) := by
  refine PS.weak (ps_if hc ha hb) fun D σ H ⟨env, m, g, hs, hm, hz⟩ => ?_
  refine ⟨env, m, g, hs, hm, (Rz.bind hz).mono fun t m1 g1 H1 e1 s1 z1 => ?_⟩
  cases t with
  | true => exact ⟨env, m1, g1, hs.ext e1, s1, z1⟩
  | false => exact ⟨env, m1, g1, hs.ext e1, s1, z1⟩
/-- the value that a name gets -/
theorem stored_ok {K : PySem.W.Frag} {c : Bool} {v v' : Val} {m m' : Mem} {g : G} {H : Hp} {x : V} (S : SimM K m g H) (h : RpV K g H x v) (e : stored c v m = .ok v' m') : ∃ g', SimM K m' g' H ∧ Ext g H g' H ∧ RpV K g' H x v' ∧ ∀ xs, v' ≠ .fr xs := by
  unfold stored at e
  split at e
  · exact S.mkCell h e
  · simp only [Res.ok.injEq] at e
    obtain ⟨rfl, rfl⟩ := e
    obtain ⟨g', s', e', r'⟩ := S.hold h
    exact ⟨g', s', e', r', nf_ne v⟩
theorem set_ok {K : PySem.W.Frag} {i : Nat} {c : Bool} {D : Ends} {σ : L2.St} {H : Hp} (h : tS K (xSet i c p) D σ H) : tE K p.v σ H fun x H1 => gName i x σ H1 D.nx := by
  obtain ⟨env, m, g, hs, hm, hz⟩ := h
  refine ⟨env, m, g, hs, hm, (Rz.bind hz).mono fun v m1 g1 H1 e1 s1 z1 x rx => ?_⟩
  cases hst : stored c v m1 with
  | fail => rw [hst] at z1; exact z1.elim
  | exc a b => rw [hst] at z1; exact z1.elim
  | ok v' m2 =>
    rw [hst, Res.bind_ok] at z1
    obtain ⟨g2, s2, e2, r2, nf2⟩ := stored_ok s1 rx hst
    unfold setIn at z1
    split at z1
    · rename_i hi
      exact Rz.ok_now (z1.ext e2) s2 _ (((hs.ext e1).ext e2).set r2 nf2 hi)
    · exact z1.elim
theorem ps_setR {i : Nat} {c : Bool} {x : Str} {pos' : Pos} (hN : X.N.Nodup) (hi : X.N[i]? = some x) (hx : Loc X.env.scope x) (hf : X.fn x = true ∨ X.env.scope.names.lookup x = some .local) (he : PE X e (tE X.K p.v)) (hs : swapsWith e (some (.Name x pos')) pos.line X.env = pure false) :
    PS X (.Assign [.Name x pos'] e pos) (tS X.K (xSet i c p)) := PS.weak (ps_set hN hi hx he hs hf) fun _ _ _ h => set_ok h
theorem ps_setLcR {i : Nat} {c : Bool} {y : Str} {py spos : Pos} {elt iter : Expr} {ifs : List Expr} {scope : Scope} {own : List (Str × Nat)} {t : Tg} {k : Sk} {src tests : List P} {pe : P} (hc : X.calm = true) (hN : X.N.Nodup) (hy : X.N[i]? = some y) (hyl : X.env.scope.names.lookup y = some .local)
    (hsw : swapsWith (.ListComp elt [⟨tg, iter, ifs, 0⟩] scope pos) (some (.Name y py)) spos.line X.env = pure true) (hi : PI X tg iter (iS X.K (srcR k src))) (ok : BlkOk X.N X.env.scope scope own)
    (hg : ∀ (s : Shared) (H : Hp) (C : Addr) (cl : List (Str × Addr)) (fp : List Addr), PG (X.blk s H scope (compEnvC scope cl C X.env) fp) tg (gT X.K t))
    (ht : ∀ (s : Shared) (H : Hp) (C : Addr) (cl : List (Str × Addr)) (fp : List Addr), PTs (X.blk s H scope (compEnvC scope cl C X.env) fp) ifs (tT X.K (tAll tests)))
    (he : ∀ (s : Shared) (H : Hp) (C : Addr) (cl : List (Str × Addr)) (fp : List Addr), PE (X.blk s H scope (compEnvC scope cl C X.env) fp) elt (tE X.K pe.v)) (hs : notSet iter = true) (hsl : ∀ i ∈ slots t, i ∈ own.map (·.2)) :
    PS X (.Assign [.Name y py] (.ListComp elt [⟨tg, iter, ifs, 0⟩] scope pos) spos) (tS X.K (xSet i c (ofV (cLc (own.map (·.2)) t k src tests pe)))) :=
  PS.weak (ps_setLc hc hN hy hyl hsw hi ok hg ht he (not_folded hs _)) fun _ _ _ h => lc_ok hsl (set_ok h)
theorem ps_setTR {us : List Tg} {k : Nat} {q : Pos} {ts : List Expr} (hg : PG X (.Tuple ts k q) (gT X.K (.tp us))) (he : PE X e (tE X.K p.v)) (hw : swappedStores [.Tuple ts k q] e X.env = pure none) (hs : swapsWithSole [.Tuple ts k q] e pos.line X.env = pure false) :
    PS X (.Assign [.Tuple ts k q] e pos) (tS X.K (xSetT (.tp us) p)) := by
  refine PS.weak (ps_asg he hg hs hw rfl) fun D σ H ⟨env, m, g, hs, hm, hz⟩ => ?_
  refine ⟨env, m, g, hs, hm, (Rz.bind hz).mono fun v m1 g1 H1 e1 s1 z1 x rx => ?_⟩
  obtain ⟨g2, s2, e2, r2⟩ := s1.hold rx
  obtain ⟨d, hd, z2⟩ := Rz.rdBind z1
  cases ha : asg (.tp us) d env with
  | none => rw [ha] at z2; exact z2.elim
  | some env' =>
    rw [ha] at z2
    cases hv : v.nf with
    | fr xs => exact absurd hv (nf_ne v xs)
    | d y =>
      rw [hv] at hd r2
      have hd' : y = d := Option.some.inj hd
      subst hd'
      exact ⟨env, g2, y, env', (hs.ext e1).ext e2, r2, ha, fun σ' hs' _ => Rz.ok_now (z2.ext e2) s2 σ' hs'⟩
    | mr j =>
      exfalso
      rw [hv] at hd
      cases hm1 : m1[j]? with
      | none => simp [rd, hm1] at hd
      | some c =>
        simp [rd, hm1] at hd
        subst hd
        simp [asg] at ha
/-! a, b = x, y -/
def tPv (K : PySem.W.Frag) (is : List (Nat × Bool)) (ps : List P) : TA := fun σ H Q => ∃ env m g, Sg K env σ g H ∧ SimM K m g H ∧ Rz K (parV is ps env m) g H fun vs _ g' H' => ∀ xs, RpVs K g' H' xs vs → Q xs H'
theorem pa_par_nil : PA X [] (tPv X.K [] []) := PA.weak pa_nil fun σ H Q ⟨env, m, g, hs, hm, hz⟩ => Rz.ok_now hz hm [] .nil
theorem pa_par_cons {i : Nat} {c : Bool} {is : List (Nat × Bool)} (ha : PE X e (tE X.K p.v)) (hr : PA X es (tPv X.K is ps)) (ns : notStar e = true) : PA X (e :: es) (tPv X.K ((i, c) :: is) (p :: ps)) := by
  refine PA.weak (pa_cons ha hr (star1 ns _ _)) fun σ H Q ⟨env, m, g, hs, hm, hz⟩ => ?_
  refine ⟨env, m, g, hs, hm, (Rz.bind hz).mono fun v m1 g1 H1 e1 s1 z1 x rx => ?_⟩
  cases hst : stored c v m1 with
  | fail => rw [hst] at z1; exact z1.elim
  | exc a b => rw [hst] at z1; exact z1.elim
  | ok v' m2 =>
    rw [hst, Res.bind_ok] at z1
    obtain ⟨g2, s2, e2, r2, nf2⟩ := stored_ok s1 rx hst
    refine ⟨env, m2, g2, (hs.ext e1).ext e2, s2, (Rz.bind (z1.ext e2)).mono fun vs m3 g3 H3 e3 s3 z3 xs rxs => ?_⟩
    exact Rz.ok_now z3 s3 (x :: xs) (.cons (r2.ext e3 nf2) nf2 rxs)
def setS : List (Nat × Bool) → List V → L2.St → L2.St
  | (i, _) :: is, x :: xs, σ => setS is xs (σ.set i (some x))
  | _, _, σ => σ
theorem setAll_ok {K : PySem.W.Frag} {m : Mem} {g : G} {H : Hp} {Q : Flow → Mem → G → Hp → Prop} : ∀ {is : List (Nat × Bool)} {vs : List Val} {xs : List V} {env : Env} {σ : L2.St}, Sg K env σ g H → RpVs K g H xs vs → Rz K (setAll is vs env m) g H Q →
    ∃ env', Sg K env' (setS is xs σ) g H ∧ Rz K (.ok (.next env') m) g H Q ∧ xs.length = is.length
  | [], _, _, env, σ, hs, .nil, hz => ⟨env, hs, hz, rfl⟩
  | [], _, _, env, σ, hs, .cons _ _ _, hz => hz.elim
  | _ :: _, _, _, env, σ, hs, .nil, hz => hz.elim
  | (i, c) :: is, _, _, env, σ, hs, .cons (v := v) (x := x) r hf t, hz => by
    unfold setAll at hz
    split at hz
    · rename_i hi
      obtain ⟨env', h1, h2, h3⟩ := setAll_ok (hs.set r hf hi) t hz
      exact ⟨env', h1, h2, by simp [h3]⟩
    · exact hz.elim
theorem par_ok {K : PySem.W.Frag} {is : List (Nat × Bool)} {D : Ends} {σ : L2.St} {H : Hp} (h : tS K (xPar is ps) D σ H) : tPv K is ps σ H fun xs H1 => xs.length = is.length ∧ D.nx (setS is xs σ) H1 := by
  obtain ⟨env, m, g, hs, hm, hz⟩ := h
  refine ⟨env, m, g, hs, hm, (Rz.bind hz).mono fun vs m1 g1 H1 e1 s1 z1 xs rxs => ?_⟩
  obtain ⟨env', h1, h2, h3⟩ := setAll_ok (hs.ext e1) rxs z1
  exact ⟨h3, Rz.ok_now h2 s1 _ h1⟩
theorem ps_par2R {i j : Nat} {c c' : Bool} {x y : Str} {a b : Expr} {px py pt : Pos} {kt k2 : Nat} {pt2 : Pos} (hc : X.calm = true) (hN : X.N.Nodup) (hi : X.N[i]? = some x) (hj : X.N[j]? = some y) (hij : i ≠ j)
    (hx : X.env.scope.names.lookup x = some .local) (hy : X.env.scope.names.lookup y = some .local) (ha : PA X [a, b] (tPv X.K [(i, c), (j, c')] ps))
    (hw : swappedStores [.Tuple [.Name x px, .Name y py] kt pt] (.Tuple [a, b] k2 pt2) X.env = pure (some [x, y])) :
    PS X (.Assign [.Tuple [.Name x px, .Name y py] kt pt] (.Tuple [a, b] k2 pt2) pos) (tS X.K (xPar [(i, c), (j, c')] ps)) := by
  refine PS.weak (ps_par hc hN hi hj hij hx hy ha hw rfl) fun D σ H h => ?_
  obtain ⟨env, m, g, hs, hm, hz⟩ := par_ok h
  refine ⟨env, m, g, hs, hm, hz.mono fun vs m1 g1 H1 e1 s1 z1 xs rxs => ?_⟩
  obtain ⟨h1, h2⟩ := z1 xs rxs
  match xs, h1 with
  | [u, w], _ => exact ⟨u, w, rfl, h2⟩
/-- names, one after another -/
def gSets : List (Nat × Bool) → TGs
  | [] => gNil
  | (i, _) :: is => gCons (gName i) (gSets is)
theorem gSets_ok {H : Hp} {Q : L2.St → Hp → Prop} : ∀ {is : List (Nat × Bool)} {xs : List V} {σ : L2.St}, xs.length = is.length → Q (setS is xs σ) H → gSets is xs σ H Q
  | [], [], σ, _, q => ⟨rfl, q⟩
  | [], _ :: _, σ, h, _ => by simp at h
  | _ :: _, [], σ, h, _ => by simp at h
  | (i, c) :: is, x :: xs, σ, h, q => ⟨x, xs, rfl, gSets_ok (by simpa using h) q⟩
theorem ps_parNR {is : List (Nat × Bool)} {ts vs : List Expr} {k k2 : Nat} {q q2 : Pos} (hc : X.calm = true) (hg : PGs X ts (gSets is)) (ns : ts.all notStar = true) (hl : ts.length = is.length) (hv : vs.length ≤ 1000) (ha : PA X vs (tPv X.K is ps)) (hil : is.length ≤ 1000)
    (hw : swappedStores [.Tuple ts k q] (.Tuple vs k2 q2) X.env = pure none) : PS X (.Assign [.Tuple ts k q] (.Tuple vs k2 q2) pos) (tS X.K (xPar is ps)) := by
  obtain ⟨a, b⟩ := assign_len ts X.env ns
  refine PS.weak (ps_asg (pe_tup ha) (pg_tup (n := ts.length) hc hg a b) rfl hw rfl) fun D σ H h => ?_
  obtain ⟨env, m, g, hs, hm, hz⟩ := h
  refine ⟨env, m, g, hs, hm, (Rz.bind hz).mono fun ws m1 g1 H1 e1 s1 z1 xs rxs => ?_⟩
  obtain ⟨env', h1, h2, h3⟩ := setAll_ok (hs.ext e1) rxs z1
  have hlen : xs.length ≤ sizeLine := by rw [h3, sizeLine_eq]; omega
  refine ⟨hlen, fun pp hp => ⟨pp, xs, rfl, .inl (.inl upd_same), by rw [h3, hl], gSets_ok h3 ?_⟩⟩
  have e2 := ext_new (o := .tup xs) s1 hp
  exact (h2.ext e2) _ _ (Ext.refl _ _) (sim_new s1 hp hlen) _ (h1.ext e2)
/-! cells -/
theorem cell_at {K : PySem.W.Frag} {env : Env} {σ : L2.St} {m : Mem} {g : G} {H : Hp} {i k : Nat} (hs : Sg K env σ g H) (S : SimM K m g H) (h : getV env i = some (.mr k)) : ∃ a, σ[i]? = some (some (.ref a)) ∧ g.ad[k]? = some a ∧ ∃ c vs, m[k]? = some c ∧ H a = some (.lst vs) ∧ RpAll K g.F H vs c.xs := by
  obtain ⟨x, h1, ⟨a, rfl, h2⟩, _⟩ := hs.at_ i _ h
  have hk : k < m.length := by
    rw [← S.len]
    exact (List.getElem?_eq_some_iff.mp h2).1
  obtain ⟨vs, h3, h4, _⟩ := S.cell k _ a (List.getElem?_eq_getElem hk) h2
  exact ⟨a, h1, h2, _, vs, List.getElem?_eq_getElem hk, h3, h4⟩
theorem upCell_ok {K : PySem.W.Frag} {env : Env} {σ : L2.St} {m : Mem} {g : G} {H : Hp} {i : Nat} {f : List PyData → Option (List PyData)} {Q : Flow → Mem → G → Hp → Prop} (hs : Sg K env σ g H) (S : SimM K m g H) (hz : Rz K (upCell env i f m) g H Q) :
    ∃ k a c vs ys, getV env i = some (.mr k) ∧ σ[i]? = some (some (.ref a)) ∧ g.ad[k]? = some a ∧ m[k]? = some c ∧ c.fz = false ∧ H a = some (.lst vs) ∧ RpAll K g.F H vs c.xs ∧ f c.xs = some ys ∧ Rz K (.ok (.next env) (m.set k ⟨false, ys⟩)) g H Q := by
  unfold upCell at hz
  cases h1 : getV env i with
  | none => rw [h1] at hz; exact hz.elim
  | some v =>
    rw [h1] at hz
    cases v with
    | d _ => exact hz.elim
    | fr _ => exact hz.elim
    | mr k =>
      obtain ⟨a, h2, h3, c, vs, h4, h5, h6⟩ := cell_at hs S h1
      simp only [h4] at hz
      split at hz
      · rename_i hf
        cases h7 : f c.xs with
        | none => rw [h7] at hz; exact hz.elim
        | some ys =>
          rw [h7] at hz
          exact ⟨k, a, c, vs, ys, rfl, h2, h3, h4, hf, h5, h6, h7, hz⟩
      · exact hz.elim
theorem getV_some {i : Nat} {env : Env} {v : Val} (h : getV env i = some v) : i < env.length := by
  unfold getV at h
  cases h1 : env[i]? with
  | none => rw [h1] at h; cases h
  | some w => exact (List.getElem?_eq_some_iff.mp h1).1
theorem few_ok {cpos : Pos} (ns : notStar e = true) (env : PySem.Env) : ((backTo cpos (starEach [e] env)).all (fun x => !x.1) && (backToKw cpos (keywordEach [] env)).all (fun x => x.1.isSome) && decide ([e].length + ([] : List Keyword).length + (if ([] : List Keyword).isEmpty then 0 else 1) < 30)) = true := by
  rw [star1 ns]; rfl
theorem onCell_ok {K : PySem.W.Frag} {env : Env} {i : Nat} {r : Res Flow} {g : G} {H : Hp} {Q : Flow → Mem → G → Hp → Prop} (h : Rz K (onCell env i r) g H Q) : ∃ k, getV env i = some (.mr k) ∧ Rz K r g H Q := by
  unfold onCell at h
  cases h1 : getV env i with
  | none => rw [h1] at h; exact h.elim
  | some v =>
    rw [h1] at h
    cases v with
    | d _ => exact h.elim
    | fr _ => exact h.elim
    | mr k => exact ⟨k, rfl, h⟩
theorem ps_appR {i : Nat} {x : Str} {q apos cpos : Pos} (hN : X.N[i]? = some x) (hv : Vis X.env.scope x) (hd : (x == ("__debug__" : Str)) = false) (hcd : (x == ("__classdict__" : Str)) = false) (ha : PE X e (tE X.K p.v)) (ns : notStar e = true)
    (hl : (apos.endLine == cpos.line) = true) : PS X (.Expr (.Call (.Attribute (.Name x q) "append" apos) [e] [] cpos) pos) (tS X.K (xApp i p)) := by
  refine PS.weak (ps_expr (pe_bm PySem.F.plainAttrs_list PySem.F.slot_list_append PySem.F.type_list_append mt_append (pe_var hN hv hd hcd) (pa_cons ha pa_nil (star1 ns _ _)) rfl (few_ok ns _) hl (star1 ns _ _) rfl) rfl) fun D σ H ⟨env, m, g, hs, hm, hz⟩ => ?_
  obtain ⟨k, hk, hz⟩ := onCell_ok hz
  obtain ⟨a, h1, h2, c, vs, h3, h4, h5⟩ := cell_at hs hm hk
  refine ⟨.ref a, h1, .inl ⟨rfl, vs, .inl (.inl h4)⟩, env, m, g, hs, hm, (Rz.bind hz).mono fun v m1 g1 H1 e1 s1 z1 y ry => ?_⟩
  cases hf : frz v m1 with
  | fail => rw [hf] at z1; exact z1.elim
  | exc a b => rw [hf] at z1; exact z1.elim
  | ok d m2 =>
    rw [hf, Res.bind_ok] at z1
    obtain ⟨g2, s2, e2, r2⟩ := s1.frz ry hf
    have hs2 := (hs.ext e1).ext e2
    obtain ⟨k', a', c', vs', ys, k1, k2, k3, k4, k5, k6, k7, k8, k9⟩ := upCell_ok hs2 s2 (z1.ext e2)
    rw [h1] at k2
    cases k2
    split at k8
    · rename_i hlt
      cases k8
      have hlen : vs'.length < sizeLine := by rw [k7.length, ← lim_eq]; exact hlt
      obtain ⟨s3, e3⟩ := up_cell (ws := vs' ++ [y]) (ys := c'.xs ++ [d]) s2 k4 k3 k5 (k7.append (.cons r2 .nil)) (by simp; omega)
      exact ⟨a, vs', y, rfl, rfl, k6, hlen, k9 _ _ e3 s3 σ (hs2.ext e3)⟩
    · cases k8
theorem ps_extR {i : Nat} {x : Str} {q apos cpos : Pos} (hN : X.N[i]? = some x) (hv : Vis X.env.scope x) (hd : (x == ("__debug__" : Str)) = false) (hcd : (x == ("__classdict__" : Str)) = false) (ha : PE X e (tE X.K p.v)) (ns : notStar e = true)
    (hl : (apos.endLine == cpos.line) = true) (hnf : True) : PS X (.Expr (.Call (.Attribute (.Name x q) "extend" apos) [e] [] cpos) pos) (tS X.K fun _ _ => .fail) := ps_badR _
theorem ps_putR {i : Nat} {x : Str} {q tpos : Pos} {j : Expr} {pj : P} (hN : X.N[i]? = some x) (hv : Vis X.env.scope x) (hd : (x == ("__debug__" : Str)) = false) (hcd : (x == ("__classdict__" : Str)) = false) (ha : PE X e (tE X.K p.v)) (hj : PE X j (tE X.K pj.v)) (hsl : notSlice j = true)
    (hsw : swapsWithSole [.Subscript (.Name x q) j tpos] e pos.line X.env = pure false) (hw : swappedStores [.Subscript (.Name x q) j tpos] e X.env = pure none) :
    PS X (.Assign [.Subscript (.Name x q) j tpos] e pos) (tS X.K (xPut i pj p)) := by
  refine PS.weak (ps_asg ha (pg_sub (pe_var hN hv hd hcd) hj set_list (by intro v; cases j <;> first | rfl | (cases hsl; done))) hsw hw rfl) fun D σ H ⟨env, m, g, hs, hm, hz⟩ => ?_
  refine ⟨env, m, g, hs, hm, (Rz.bind hz).mono fun v m1 g1 H1 e1 s1 z1 y ry => ?_⟩
  cases hf : frz v m1 with
  | fail => rw [hf] at z1; exact z1.elim
  | exc a b => rw [hf] at z1; exact z1.elim
  | ok d m2 =>
    rw [hf, Res.bind_ok] at z1
    obtain ⟨g2, s2, e2, r2⟩ := s1.frz ry hf
    have hs2 := (hs.ext e1).ext e2
    obtain ⟨k, hk, z2⟩ := onCell_ok (z1.ext e2)
    obtain ⟨a, h1, h2, c, vs, h3, h4, h5⟩ := cell_at hs2 s2 hk
    refine ⟨.ref a, h1, env, m2, g2, hs2, s2, (Rz.bind z2).mono fun vj m3 g3 H3 e3 s3 z3 w rw_ => ?_⟩
    obtain ⟨g4, s4, e4, r4⟩ := s3.hold rw_
    obtain ⟨dj, hdj, z4⟩ := Rz.rdBind (z3.ext e4)
    have rj := s4.read (nf_ne vj) r4 hdj
    have hs4 := (hs2.ext e3).ext e4
    obtain ⟨k', a', c', vs', ys, k1, k2, k3, k4, k5, k6, k7, k8, k9⟩ := upCell_ok hs4 s4 z4
    rw [h1] at k2
    cases k2
    unfold putD at k8
    split at k8
    · rename_i n
      obtain ⟨n', hn, e⟩ := Option.map_eq_some_iff.mp k8
      subst e
      have hz : (vs'.set n' y).length ≤ sizeLine := by rw [List.length_set]; exact s4.sz a vs' (.inl k6)
      obtain ⟨s5, e5⟩ := up_cell (ws := vs'.set n' y) (ys := c'.xs.set n' d) s4 k4 k3 k5 (k7.set n' (Rp.ext (e3.trans e4) _ r2)) hz
      exact ⟨a, vs', n, n', rfl, rj.int, k6, by rw [k7.length]; exact hn, k9 _ _ e5 s5 σ (hs4.ext e5)⟩
    · cases k8
theorem pe_popR {i : Nat} {x : Str} {q apos cpos : Pos} (hN : X.N[i]? = some x) (hv : Vis X.env.scope x) (hd : (x == ("__debug__" : Str)) = false) (hcd : (x == ("__classdict__" : Str)) = false) (ha : PE X e (tE X.K p.v)) (ns : notStar e = true)
    (hl : (apos.endLine == cpos.line) = true) : PE X (.Call (.Attribute (.Name x q) "pop" apos) [e] [] cpos) (tE X.K (cPop i p)) := by
  refine PE.weak (pe_bm PySem.F.plainAttrs_list PySem.F.slot_list_pop PySem.F.type_list_pop mt_popAt (pe_var hN hv hd hcd) (pa_cons ha pa_nil (star1 ns _ _)) rfl (few_ok ns _) hl (star1 ns _ _) rfl) fun σ H Q ⟨env, m, g, hs, hm, hz⟩ => ?_
  unfold cPop at hz
  cases hk : getV env i with
  | none => rw [hk] at hz; exact hz.elim
  | some vv =>
    rw [hk] at hz
    cases vv with
    | d _ => exact hz.elim
    | fr _ => exact hz.elim
    | mr k =>
      obtain ⟨a, h1, h2, c, vs, h3, h4, h5⟩ := cell_at hs hm hk
      refine ⟨.ref a, h1, .inl ⟨rfl, vs, .inl (.inl h4)⟩, env, m, g, hs, hm, (Rz.bind hz).mono fun v m1 g1 H1 e1 s1 z1 y ry => ?_⟩
      obtain ⟨g2, s2, e2, r2⟩ := s1.hold ry
      obtain ⟨dj, hdj, z2⟩ := Rz.rdBind (z1.ext e2)
      have rj := s2.read (nf_ne v) r2 hdj
      have h2' : g2.ad[k]? = some a := e2.at (e1.at h2)
      cases dj with
      | int j =>
        have hkl : k < m1.length := by
          rw [← s2.len]
          exact (List.getElem?_eq_some_iff.mp h2').1
        have hm1 : m1[k]? = some m1[k] := List.getElem?_eq_getElem hkl
        generalize m1[k] = cc at hm1
        obtain ⟨ws, k1, k2, k3, k4⟩ := s2.cell k cc a hm1 h2'
        simp only [hm1] at z2
        split at z2
        · rename_i hc
          obtain ⟨c1, c2, c3⟩ := hc
          cases hg : cc.xs[j.toNat]? with
          | none => rw [hg] at z2; exact z2.elim
          | some d =>
            rw [hg] at z2
            obtain ⟨yy, hy, ry'⟩ := k2.get hg
            have hwl := s2.sz a ws (.inl k1)
            have hlen := k2.length
            obtain ⟨s3, e3⟩ := up_cell (ws := ws.eraseIdx j.toNat) (ys := cc.xs.eraseIdx j.toNat) s2 hm1 h2' c1 (k2.erase _) (Nat.le_trans (List.length_eraseIdx_le _ _) hwl)
            have hj : seqIndex? j ws.length = some j.toNat := (ixN_seq (show ixN ws.length j = some j.toNat by
              unfold ixN
              rw [if_pos c2, if_pos (by rw [hlen]; exact c3)])).1
            have hb : ws.length ≤ 16777216 := by rw [← sizeLine_eq]; exact hwl
            have hj2 : j < ws.length := by rw [hlen]; exact c3
            exact ⟨a, ws, j, j.toNat, yy, rfl, by rw [rj.int], k1, by omega, by omega, hj, hy, z2 _ _ e3 s3 yy (Rp.ext e3 _ ry')⟩
        · exact z2.elim
      | none => exact z2.elim
      | bool _ => exact z2.elim
      | str _ => exact z2.elim
      | list _ => exact z2.elim
      | tuple _ => exact z2.elim
      | dict _ => exact z2.elim
end
end Ra


set_option Elab.async false
set_option linter.all false
set_option autoImplicit false
set_option maxRecDepth 100000
/-! loops, calls, defs -/
namespace Ra
open PySem PySem.Spec PyProof.Rows L2
section
variable {X : Cx} {tg e : Expr} {es : List Expr} {p : P} {ps : List P} {pos : Pos}
theorem for_loop {K : PySem.W.Frag} {t : Tg} {body : EX} {J : It} {is : List PyData} {gs : List Nat} {env : Env} {m0 : Mem} {g0 : G} {H0 : Hp} {σ : L2.St} {D : Ends} (hs : Sg K env σ g0 H0) (S0 : SimM K m0 g0 H0)
    (W : WalkOk K J is gs m0 g0 H0) (hr : same gs m0 m0 = true) (hz : Rz K (forLoop t body gs is env m0) g0 H0 (FlowQ K D)) :
    ∃ W : Nat → Nat → L2.St → Hp → Prop, (∃ m, W 0 m σ H0) ∧ ∀ i m σ H, W i m σ H → (J.stop i H ∧ D.nx σ H) ∨ (J.go i H ∧ ∃ N : L2.St → Hp → Prop, (∀ σ' H', N σ' H' → ∃ m', m' < m ∧ W (i + 1) m' σ' H') ∧
      ∀ x H', J.yld i H x H' → gT K t x σ H' fun σ2 H2 => tS K body { D with nx := N, ct := N, bk := D.nx } σ2 H2) := by
  refine ⟨fun i n σ H => ∃ (env : Env) (m : Mem) (g : G), i + n = is.length ∧ Ext g0 H0 g H ∧ SimM K m g H ∧ same gs m0 m = true ∧ Sg K env σ g H ∧ Rz K (forLoop t body gs (is.drop i) env m) g H (FlowQ K D),
    ⟨is.length, env, m0, g0, by omega, Ext.refl _ _, S0, hr, hs, by rw [List.drop_zero]; exact hz⟩, fun i n σ H hW => ?_⟩
  obtain ⟨env, m, g, hn, e, S, sm, hs, hZ⟩ := hW
  by_cases hi : i < is.length
  · have hdi : is[i]? = some is[i] := List.getElem?_eq_getElem hi
    rw [List.drop_eq_getElem_cons hi] at hZ
    simp only [forLoop] at hZ
    refine .inr ⟨W.go i m g H e.toBack S sm hi, fun σ' H' => ∃ (env : Env) (m : Mem) (g : G), Ext g0 H0 g H' ∧ SimM K m g H' ∧ same gs m0 m = true ∧ Sg K env σ' g H' ∧ Rz K (forLoop t body gs (is.drop (i + 1)) env m) g H' (FlowQ K D), fun σ' H' hN => ?_, fun x H' hy => ?_⟩
    · obtain ⟨env', m', g', a1, a2, a3, a4, a5⟩ := hN
      exact ⟨n - 1, by omega, env', m', g', by omega, a1, a2, a3, a4, a5⟩
    · obtain ⟨S1, e1, r1⟩ := W.yld i m g H x H' is[i] e.toBack S sm hdi hy
      cases ha : asg t is[i] env with
      | none => rw [ha] at hZ; exact hZ.elim
      | some env' =>
        rw [ha] at hZ
        refine ⟨env, g, _, env', hs.ext e1, r1, ha, fun σ2 hs2 _ => ⟨env', m, g, hs2, S1, ?_⟩⟩
        refine (Rz.bind (hZ.ext e1)).mono fun f m2 g2 H2 e2 s2 z2 => ?_
        cases f with
        | next env2 =>
          intro σ3 hs3
          simp only at z2
          split at z2
          · rename_i hsm
            exact ⟨env2, m2, g2, (e.trans e1).trans e2, s2, same_trans sm hsm, hs3, z2⟩
          · exact z2.elim
        | cnt env2 =>
          intro σ3 hs3
          simp only at z2
          split at z2
          · rename_i hsm
            exact ⟨env2, m2, g2, (e.trans e1).trans e2, s2, same_trans sm hsm, hs3, z2⟩
          · exact z2.elim
        | brk env2 => exact Rz.ok_now z2 s2
        | ret v => exact Rz.ok_now z2 s2
  · have hlen : i = is.length := by omega
    subst hlen
    rw [List.drop_length] at hZ
    exact .inl ⟨W.stop _ m g H e.toBack S sm (Nat.le_refl _), Rz.ok_now hZ S σ hs⟩
theorem ps_forR {iter : Expr} {body : List Stmt} {t : Tg} {k : Sk} {x : EX} (hx : X.xe = fun _ _ => False) (hc : X.calm = true) (hi : PI X tg iter (iS X.K (srcR k ps))) (hg : PG X tg (gT X.K t)) (hb : PSs X body (tS X.K x)) (hs : notSet iter = true) :
    PS X (.For tg iter body [] pos) (tS X.K (xFor t k ps x)) := by
  refine PS.weak (ps_for (by rw [hx]; exact PassesOwn.never) hc hi hg hb (not_folded hs _)) fun D σ H ⟨env, m, g, hs, hm, hz⟩ => ?_
  refine ⟨env, m, g, hs, hm, (Rz.bind hz).mono fun q m1 g1 H1 e1 s1 z1 J hJ hr => ?_⟩
  exact for_loop (hs.ext e1) s1 hJ hr z1
theorem ps_whileR {c : Expr} {body : List Stmt} {x : EX} {n : Nat} (hx : X.xe = fun _ _ => False) (hc : PT X c (tT X.K p.t)) (hb : PSs X body (tS X.K x)) : PS X (.While c body [] pos) (tS X.K (whileLoop p x n)) := by
  refine PS.weak (ps_while (by rw [hx]; exact PassesOwn.never) hc hb) fun D σ H ⟨env, m, g, hs, hm, hz⟩ => ?_
  refine ⟨fun n σ H => ∃ (env : Env) (m : Mem) (g : G), Sg X.K env σ g H ∧ SimM X.K m g H ∧ Rz X.K (whileLoop p x n env m) g H (FlowQ X.K D), ⟨n, env, m, g, hs, hm, hz⟩, fun n σ H hW => ?_⟩
  obtain ⟨env, m, g, hs, hm, hz⟩ := hW
  cases n with
  | zero => exact hz.elim
  | succ n =>
    simp only [whileLoop] at hz
    refine ⟨env, m, g, hs, hm, (Rz.bind hz).mono fun b m1 g1 H1 e1 s1 z1 => ?_⟩
    cases b with
    | false => exact Rz.ok_now z1 s1 σ (hs.ext e1)
    | true =>
      simp only [if_true] at z1 ⊢
      refine ⟨fun σ' H' => ∃ (env : Env) (m : Mem) (g : G), Sg X.K env σ' g H' ∧ SimM X.K m g H' ∧ Rz X.K (whileLoop p x n env m) g H' (FlowQ X.K D), fun σ' H' hN => ⟨n, Nat.lt_succ_self _, hN⟩, env, m1, g1, hs.ext e1, s1, ?_⟩
      refine (Rz.bind z1).mono fun f m2 g2 H2 e2 s2 z2 => ?_
      cases f with
      | next env2 => exact fun σ3 hs3 => ⟨env2, m2, g2, hs3, s2, z2⟩
      | cnt env2 => exact fun σ3 hs3 => ⟨env2, m2, g2, hs3, s2, z2⟩
      | brk env2 => exact Rz.ok_now z2 s2
      | ret v => exact Rz.ok_now z2 s2
/-! calls -/
theorem Rz.bind0 {K : PySem.W.Frag} {α β : Type} {g : G} {H : Hp} {r : Res α} {f : α → Mem → Res β} {Q : β → Mem → G → Hp → Prop} (h : Rz K (r.bind f) g H Q) : Rz K r g H fun a m' g' H' => Ext g H g' H' ∧ SimM K m' g' H' ∧ Rz K (f a m') g H Q := by
  cases r with
  | ok a m' => exact fun g2 H2 e2 s2 => ⟨e2, s2, h⟩
  | exc x m' => exact h
  | fail => exact h
def spOf (K : PySem.W.Frag) (np : Nat) (c : List Val → Mem → Res Val) : Sp := fun vs H Q _ => vs.length = np ∧ ∃ args m g, SimM K m g H ∧ RpVs K g H vs args ∧ Rz K (c args m) g H (Ans K Q)
theorem RpVs.length {K : PySem.W.Frag} {g : G} {H : Hp} : ∀ {xs : List V} {vs : List Val}, RpVs K g H xs vs → xs.length = vs.length
  | _, _, .nil => rfl
  | _, _, .cons _ _ t => by rw [List.length_cons, List.length_cons, RpVs.length t]
theorem cArgs_len : ∀ (ps : List P) {env : Env} {m : Mem} {vs : List Val} {m' : Mem}, cArgs ps env m = .ok vs m' → vs.length = ps.length
  | [], env, m, ds, m', h => by
    simp only [cArgs, Res.ok.injEq] at h
    rw [← h.1]; rfl
  | p :: ps, env, m, ds, m', h => by
    simp only [cArgs] at h
    cases h1 : p.v env m with
    | fail => rw [h1] at h; simp at h
    | exc a b => rw [h1] at h; simp at h
    | ok v m1 =>
      rw [h1] at h; simp only [Res.bind_ok] at h
      cases h3 : cArgs ps env m1 with
      | fail => rw [h3] at h; simp at h
      | exc a b => rw [h3] at h; simp at h
      | ok ds' m3 =>
        rw [h3] at h; simp only [Res.bind_ok, Res.ok.injEq] at h
        rw [← h.1, List.length_cons, cArgs_len ps h3, List.length_cons]
theorem call_ok {K : PySem.W.Frag} {call : Call} {f : Nat} {σ : L2.St} {H : Hp} {Q : VK} {E : XK} (h : tE K (cCall call f ps) σ H Q) : tCall (spOf K ps.length (call f)) [] E (tAr K (cArgs ps)) σ H Q := by
  obtain ⟨env, m, g, hs, hm, hz⟩ := h
  refine ⟨env, m, g, hs, hm, ?_⟩
  have hz' := Rz.bind hz
  cases h1 : cArgs ps env m with
  | fail => rw [h1] at hz'; exact hz'.elim
  | exc a b => rw [h1] at hz'; exact hz'.elim
  | ok vs m1 =>
    rw [h1] at hz'
    intro g1 H1 e1 s1 xs rxs
    rw [List.append_nil]
    exact ⟨by rw [rxs.length, cArgs_len ps h1], vs, m1, g1, s1, rxs, hz' g1 H1 e1 s1⟩
/-- the cells of a def go -/
theorem leave_ok {K : PySem.W.Frag} {m m2 : Mem} {g g2 : G} {H H2 : Hp} {v : Val} {x : V} {Q : Val → Mem → G → Hp → Prop} (S : SimM K m g H) (e : Ext g H g2 H2) (s2 : SimM K m2 g2 H2) (r : RpV K g2 H2 x v) (hz : Rz K (leave m.length v m2) g H Q) :
    ∃ v' m' g', Ext g H g' H2 ∧ SimM K m' g' H2 ∧ RpV K g' H2 x v' ∧ Q v' m' g' H2 := by
  cases hl : leave m.length v m2 with
  | fail => rw [hl] at hz; exact hz.elim
  | exc a b => rw [hl] at hz; exact hz.elim
  | ok v' m' =>
    rw [hl] at hz
    have hn : m.length ≤ m2.length := by
      obtain ⟨more, h⟩ := e.ads
      rw [← S.len, ← s2.len, h, List.length_append]; omega
    obtain ⟨rfl, r'⟩ := s2.leave r hl hn
    have e' : Ext g H ⟨g2.F, g2.ad.take m.length, g2.pr⟩ H2 := ⟨e.sub, e.fix, e.tup, e.frz, by
      obtain ⟨more, h⟩ := e.ads
      exact ⟨[], by rw [h, ← S.len]; simp⟩, e.pre, e.keep⟩
    exact ⟨v', _, _, e', s2.take _, r', hz _ _ e' (s2.take _)⟩
theorem callc_ok {K : PySem.W.Frag} {call : Call} {f : Nat} {σ : L2.St} {H : Hp} {Q : VK} {E : XK} (h : tE K (cCallC call f ps) σ H Q) : tCall (spOf K ps.length (call f)) [] E (tAr K (cArgs ps)) σ H Q := by
  obtain ⟨env, m, g, hs, hm, hz⟩ := h
  refine ⟨env, m, g, hs, hm, ?_⟩
  have hz' := Rz.bind0 hz
  cases h1 : cArgs ps env m with
  | fail => rw [h1] at hz'; exact hz'.elim
  | exc a b => rw [h1] at hz'; exact hz'.elim
  | ok vs m1 =>
    rw [h1] at hz'
    intro g1 H1 e1 s1 xs rxs
    obtain ⟨_, _, z1⟩ := hz' g1 H1 e1 s1
    rw [List.append_nil]
    refine ⟨by rw [rxs.length, cArgs_len ps h1], vs, m1, g1, s1, rxs, ?_⟩
    cases h2 : call f vs m1 with
    | fail => rw [h2] at z1; exact z1.elim
    | exc a b => rw [h2] at z1; exact z1.elim
    | ok v m2 =>
      rw [h2] at z1
      intro g2 H2 e2 s2 x rx
      obtain ⟨v', m', g', k1, k2, k3, k4⟩ := leave_ok hm (e1.trans e2) s2 rx z1
      exact k4 x k3
theorem pe_cellR (h : PE X e (tE X.K p.v)) : PE X e (tE X.K (cCell p)) := by
  refine PE.weak h fun σ H Q ⟨env, m, g, hs, hm, hz⟩ => ?_
  refine ⟨env, m, g, hs, hm, (Rz.bind hz).mono fun v m1 g1 H1 e1 s1 z1 x rx => ?_⟩
  cases hc : mkCell v m1 with
  | fail => rw [hc] at z1; exact z1.elim
  | exc a b => rw [hc] at z1; exact z1.elim
  | ok v' m2 =>
    rw [hc] at z1
    obtain ⟨g2, s2, e2, r2, _⟩ := s1.mkCell rx hc
    exact z1 _ _ e2 s2 x r2
/-! a def -/
theorem start_ok {K : PySem.W.Frag} {g : G} {H : Hp} {N : List Str} : ∀ {xs : List V} {vs : List Val}, RpVs K g H xs vs → xs.length ≤ N.length → Sg K (vs.map some ++ List.replicate (N.length - vs.length) none) (L2.start N xs) g H := by
  intro xs vs h hl
  have hlen := h.length
  refine ⟨by unfold L2.start; simp [hlen], fun i v q => ?_⟩
  have key : ∀ {xs : List V} {vs : List Val} (r : RpVs K g H xs vs) (i : Nat) (v : Val), vs[i]? = some v → ∃ x, xs[i]? = some x ∧ RpV K g H x v ∧ ∀ ys, v ≠ .fr ys := by
    intro xs vs r
    induction r with
    | nil => intro i v h; simp at h
    | cons r hf t ih =>
      intro i v h
      cases i with
      | zero =>
        simp at h; subst h
        exact ⟨_, rfl, r, hf⟩
      | succ i =>
        simp at h
        obtain ⟨x, a, b, c⟩ := ih i v h
        exact ⟨x, by simpa using a, b, c⟩
  unfold getV at q
  by_cases hi : i < vs.length
  · rw [List.getElem?_append_left (by simpa using hi), List.getElem?_map, List.getElem?_eq_getElem hi] at q
    simp at q
    obtain ⟨x, a, b, c⟩ := key h i v (by rw [List.getElem?_eq_getElem hi, q])
    refine ⟨x, ?_, b, c⟩
    unfold L2.start
    rw [List.getElem?_append_left (by rw [List.length_map, hlen]; exact hi), List.getElem?_map, a]
    rfl
  · rw [List.getElem?_append_right (by simpa using hi), List.getElem?_replicate] at q
    split at q <;> cases q
theorem fn_zero {P : Program} {w : World} {K : PySem.W.Frag} {mg : Str → Option Value} {base : Heap} {CX : CXT} {f : Addr} {fd : FuncData} {ps : List Str} {T : List Fn} {wf i : Nat} : FnOk P w K mg base CX 0 f fd ps (spOf K ps.length (run T wf 0 i)) :=
  ⟨fun vs H Q E h => h.1, fun A outer s H args us vs Q E hr he hb hv ⟨_, _, _, _, _, _, hz⟩ => hz.elim⟩
theorem fn_succ {P : Program} {w : World} {K : PySem.W.Frag} {mg : Str → Option Value} {base : Heap} {x qual : Str} {params : Arguments} {body : List Stmt} {scope : Scope} {kws : List (Str × V)} {f : Addr} {fd : FuncData} {N ps : List Str} {T : List Fn} {wf i n : Nat} {Fb : Fn}
    (F : FunD K x qual params body scope [] kws f fd) (S : FnScope N ps scope) (hT : T[i]? = some Fb) (hn : Fb.n = N.length) (hps : Fb.ps = ps.length)
    (hb : ∀ (X : Cx), X.prog = P → X.w = w → X.K = K → X.mg = mg → X.base = base → X.env.scope = scope → X.N = N → X.calm = true → X.xe = (fun _ _ => False) → (∀ y, X.fn y = true) → Room n X.A → PSs X body (tS K (exB (run T wf n) wf Fb.body))) :
    FnOk P w K mg base CX0 (n + 1) f fd ps (spOf K ps.length (run T wf (n + 1) i)) := by
  refine F.ok S (fun vs H Q E h => h.1) (fun cdv A outer s H vs Q E hr h => ?_)
  obtain ⟨hl, args, m, g, Sm, rvs, hz⟩ := h
  refine ⟨tS K (exB (run T wf n) wf Fb.body), PSs.nox ?_, ?_⟩
  · exact hb _ rfl rfl rfl rfl rfl rfl rfl rfl rfl (fun _ => rfl) hr
  · have hla := rvs.length
    simp only [run, hT] at hz
    split at hz
    · rename_i hc
      have hN : ps.length ≤ N.length := by rw [← hps, ← hn]; exact hc.2
      have hs : Sg K (args.map some ++ List.replicate (Fb.n - Fb.ps) none) (L2.start N vs) g H := by
        rw [hn, hps, ← hl, hla]
        exact start_ok rvs (by rw [hl]; exact hN)
      refine ⟨_, m, g, hs, Sm, (Rz.bind0 hz).mono fun fl m1 g1 H1 e1 s1 hq => ?_⟩
      obtain ⟨_, _, z1⟩ := hq
      cases fl with
      | ret v =>
        intro y ry
        obtain ⟨v', m', g', k1, k2, k3, k4⟩ := leave_ok Sm e1 s1 ry z1
        exact k4 y k3
      | next env' =>
        intro σ' _
        have e' : Ext g H ⟨g1.F, g1.ad.take m.length, g1.pr⟩ H1 := ⟨e1.sub, e1.fix, e1.tup, e1.frz, by
          obtain ⟨more, h⟩ := e1.ads
          exact ⟨[], by rw [h, ← Sm.len]; simp⟩, e1.pre, e1.keep⟩
        exact z1 _ _ e' (s1.take _) .non .non
      | brk env' => exact z1.elim
      | cnt env' => exact z1.elim
    · exact hz.elim
end
end Ra


set_option Elab.async false
set_option linter.all false
set_option autoImplicit false
set_option maxRecDepth 100000
/-! which term of the evaluator stands for which expression -/
namespace Ra
open PySem PySem.Spec PyProof.Rows L2
/-- what is known of the text -/
structure Cs where
  N : List Str
  fns : List (Str × List Str)
  free : List Str
  glo : List (Str × PyData)
def okName (x : Str) : Bool := !(x == ("__debug__" : Str)) && !(x == ("__classdict__" : Str)) && decide (x ≠ "__name__")
def visB (sc : Scope) (x : Str) : Bool := match sc.names.lookup x with
  | some .local => true
  | some .cell => true
  | some .free => true
  | _ => false
def locB (sc : Scope) (x : Str) : Bool := match sc.names.lookup x with
  | some .local => true
  | some .cell => true
  | _ => false
def gloB (sc : Scope) (x : Str) : Bool := match sc.names.lookup x with
  | some .globalImplicit => true
  | _ => false
def lclB (sc : Scope) (x : Str) : Bool := match sc.names.lookup x with
  | some .local => true
  | _ => false
/-- a built-in's name that is not taken -/
def bltB (C : Cs) (sc : Scope) (x : Str) : Bool := decide (x ∈ C.free) && gloB sc x && okName x
def cstB : PyData → Const → Bool
  | .none, .none => true
  | .bool a, .bool b => a == b
  | .int a, .int b => decide (a = b)
  | .str a, .str b => decide (a = b) && sOk a
  | _, _ => false
def bopB : Bop → Operator → Bool
  | .add, .Add => true
  | .sub, .Sub => true
  | .mul, .Mult => true
  | .fdiv, .FloorDiv => true
  | .mod, .Mod => true
  | .pow, .Pow => true
  | _, _ => false
def copB : Cop → CmpOp → Bool
  | .eq, .Eq => true
  | .ne, .NotEq => true
  | .lt, .Lt => true
  | .le, .LtE => true
  | .gt, .Gt => true
  | .ge, .GtE => true
  | .isin, .In => true
  | .notin, .NotIn => true
  | _, _ => false
def biN : Bi → Str
  | .len => "len"
  | .abs => "abs"
  | .int => "int"
  | .list => "list"
  | .tuple => "tuple"
  | .sorted => "sorted"
  | .sortedset => "sorted"
  | .all => "all"
  | .any => "any"
  | .min2 => "min"
  | .max2 => "max"
def clsN : Cls → Str
  | .int => "int"
  | .bool => "bool"
  | .str => "str"
  | .list => "list"
  | .tuple => "tuple"
  | .dict => "dict"
def clsB (C : Cs) (sc : Scope) (c : Cls) : Expr → Bool
  | .Name x _ => decide (x = clsN c) && bltB C sc x
  | _ => false
def clssB (C : Cs) (sc : Scope) : List Cls → List Expr → Bool
  | [], [] => true
  | c :: cs, e :: es => clsB C sc c e && clssB C sc cs es
  | _, _ => false
mutual
def chkT (N : List Str) (sc : Scope) (fb : Str → Bool) : Tg → Expr → Bool
  | .nm i, .Name x _ => decide (N[i]? = some x) && locB sc x && (fb x || lclB sc x)
  | .tp ts, .Tuple es _ _ => chkTs N sc fb ts es
  | _, _ => false
def chkTs (N : List Str) (sc : Scope) (fb : Str → Bool) : List Tg → List Expr → Bool
  | [], [] => true
  | t :: ts, e :: es => notStar e && chkT N sc fb t e && chkTs N sc fb ts es
  | _, _ => false
end
def isTupE : Expr → Bool
  | .Tuple _ _ _ => true
  | _ => false
def cellB (scope : Scope) : Str → Bool := fun x => scope.names.lookup x == some .cell
def kwN : List Keyword → List (Option Str)
  | [] => []
  | ⟨n, _, _⟩ :: r => n :: kwN r
def kwE : List Keyword → List Expr
  | [] => []
  | ⟨_, e, _⟩ :: r => e :: kwE r
def minus1 : Expr → Bool
  | .UnaryOp .USub (.Constant (.int 1) _ _) _ => true
  | _ => false
section
variable (C : Cs)
/-- the arguments of what is walked -/
def srcE (sc : Scope) (tg : Expr) (k : Sk) (iter : Expr) : Option (List Expr) := match k with
  | .seq => some [iter]
  | .range => match iter with
    | .Call (.Name x _) [a] [] _ => if decide (x = "range") && bltB C sc x then some [a] else none
    | _ => none
  | .zip => match iter with
    | .Call (.Name x _) [a, b] [] _ => if decide (x = "zip") && bltB C sc x && isTupE tg then some [a, b] else none
    | _ => none
  | .enum => match iter with
    | .Call (.Name x _) [a] [] _ => if decide (x = "enumerate") && bltB C sc x && isTupE tg then some [a] else none
    | _ => none
  | .range2 => none
abbrev Ck := Scope → (Str → Bool) → Expr → Bool
abbrev CkL := Scope → (Str → Bool) → List Expr → Bool
def fnB (x : Str) (f n : Nat) : Bool := match C.fns[f]? with
  | some (y, ps) => decide (x = y) && decide (ps.length = n)
  | none => false
def kVar (i : Nat) : Ck := fun sc _ ex => match ex with
  | .Name x _ => decide (C.N[i]? = some x) && visB sc x && okName x
  | _ => false
def kCst (c : PyData) : Ck := fun _ _ ex => match ex with
  | .Constant k _ _ => cstB c k
  | _ => false
def kGlo (c : PyData) : Ck := fun sc _ ex => match ex with
  | .Name x _ => gloB sc x && okName x && (match C.glo.lookup x with | some d => beqD d c && (flatD c).isSome | none => false)
  | _ => false
def kTup (n : Nat) (f : CkL) : Ck := fun sc fb ex => match ex with
  | .Tuple xs _ _ => f sc fb xs && decide (n ≤ 1000)
  | _ => false
def kLst (n : Nat) (f : CkL) : Ck := fun sc fb ex => match ex with
  | .List xs _ => f sc fb xs && decide (n ≤ 1000)
  | _ => false
def kCall (g n : Nat) (f : CkL) : Ck := fun sc fb ex => match ex with
  | .Call (.Name x _) xs [] _ => f sc fb xs && gloB sc x && okName x && fnB C x g n
  | _ => false
def kCallk (g n : Nat) (f : CkL) : Ck := fun sc fb ex => match ex with
  | .Call (.Name x _) [] (kw :: kws) _ => f sc fb (kwE (kw :: kws)) && gloB sc x && okName x && (match C.fns[g]? with
    | some (y, ps) => decide (x = y) && decide (ps.map some = kwN (kw :: kws)) && decide (ps.length = n)
    | none => false)
  | _ => false
def kOp (o : Bop) (f g : Ck) : Ck := fun sc fb ex => match ex with
  | .BinOp x p y _ => bopB o p && f sc fb x && g sc fb y
  | _ => false
def kNeg (f : Ck) : Ck := fun sc fb ex => match ex with
  | .UnaryOp .USub x _ => f sc fb x
  | _ => false
def kCmp (o : Cop) (f g : Ck) : Ck := fun sc fb ex => match ex with
  | .Compare x [p] [y] _ => copB o p && !behindInMarks p y && f sc fb x && g sc fb y
  | _ => false
def kChain (o o' : Cop) (f g h : Ck) : Ck := fun sc fb ex => match ex with
  | .Compare x [p, p'] [y, z] _ => copB o p && copB o' p' && !lastMarks [p, p'] [y, z] && f sc fb x && g sc fb y && h sc fb z
  | _ => false
def kIsN (f : Ck) : Ck := fun sc fb ex => match ex with
  | .Compare x [.Is] [.Constant .none _ _] _ => f sc fb x
  | _ => false
def kIsnN (f : Ck) : Ck := fun sc fb ex => match ex with
  | .Compare x [.IsNot] [.Constant .none _ _] _ => f sc fb x
  | _ => false
def kAnd (f : CkL) : Ck := fun sc fb ex => match ex with
  | .BoolOp .And xs _ => f sc fb xs
  | _ => false
def kOr (f : CkL) : Ck := fun sc fb ex => match ex with
  | .BoolOp .Or xs _ => f sc fb xs
  | _ => false
def kNot (f : Ck) : Ck := fun sc fb ex => match ex with
  | .UnaryOp .Not x _ => f sc fb x
  | _ => false
def kIte (f g h : Ck) : Ck := fun sc fb ex => match ex with
  | .IfExp z x y _ => f sc fb z && g sc fb x && h sc fb y
  | _ => false
def kIdx (f g : Ck) : Ck := fun sc fb ex => match ex with
  | .Subscript x y _ => notSlice y && f sc fb x && g sc fb y
  | _ => false
def kSl (f : Ck) : Ck := fun sc fb ex => match ex with
  | .Subscript x (.Slice none none none _) _ => f sc fb x
  | _ => false
def kSlL (f g : Ck) : Ck := fun sc fb ex => match ex with
  | .Subscript x (.Slice (some y) none none _) _ => f sc fb x && g sc fb y
  | _ => false
def kSlU (f g : Ck) : Ck := fun sc fb ex => match ex with
  | .Subscript x (.Slice none (some y) none _) _ => f sc fb x && g sc fb y
  | _ => false
def kSlLU (f g h : Ck) : Ck := fun sc fb ex => match ex with
  | .Subscript x (.Slice (some y) (some z) none _) _ => f sc fb x && g sc fb y && h sc fb z
  | _ => false
def kRev (f : Ck) : Ck := fun sc fb ex => match ex with
  | .Subscript x (.Slice none none (some (.UnaryOp .USub (.Constant (.int i) _ _) _)) _) _ => decide (i = 1) && f sc fb x
  | _ => false
/-- which calls are served -/
def biOk : Bi → Bool
  | .sortedset => false
  | _ => true
def kBi (b : Bi) (n : Nat) (f : CkL) : Ck := fun sc fb ex => match ex with
  | .Call (.Name x _) xs [] _ => biOk b && decide (x = biN b) && bltB C sc x && f sc fb xs && decide (n ≠ 0)
  | _ => false
/-- sorted(set(e)) -/
def kSet (f : CkL) : Ck := fun sc fb ex => match ex with
  | .Call (.Name x _) [.Call (.Name y _) [z] [] _] [] _ => decide (x = "sorted") && bltB C sc x && decide (y = "set") && bltB C sc y && f sc fb [z]
  | _ => false
def kIsi (cs : List Cls) (f : Ck) : Ck := fun sc fb ex => match ex with
  | .Call (.Name x _) [y, z] [] _ => decide (x = "isinstance") && bltB C sc x && notStar y && f sc fb y && (match cs with
    | [c] => clsB C sc c z
    | _ => match z with
      | .Tuple zs _ _ => clssB C sc cs zs && decide (cs.length ≤ 1000)
      | _ => false)
  | _ => false
def kPop (i : Nat) (f : Ck) : Ck := fun sc fb ex => match ex with
  | .Call (.Attribute (.Name x _) m apos) [y] [] cpos => decide (C.N[i]? = some x) && visB sc x && okName x && decide (m = "pop") && notStar y && (apos.endLine == cpos.line) && f sc fb y
  | _ => false
def kLc (own : List Nat) (t : Tg) (k : Sk) (f : CkL) (g : CkL) (h : Ck) : Ck := fun sc fb ex => match ex with
  | .ListComp el [⟨tg, iter, ifs, asy⟩] scope _ => decide (asy = 0) && (match srcE C sc tg k iter with | some xs => f sc fb xs | none => false) && notSet iter && decide (ifs.length ≤ 1) &&
      blkC C.N sc scope (own.map fun i => (C.N.getD i "", i)) && (slots t).all (fun i => decide (i ∈ own)) && chkT C.N (relS scope sc) (cellB scope) t tg && g (relS scope sc) (cellB scope) ifs && h (relS scope sc) (cellB scope) el
  | _ => false
mutual
def chkE : E → Ck
  | .bad => fun _ _ _ => true
  | .var i => kVar C i
  | .cst c => kCst c
  | .glo c => kGlo C c
  | .tup es => kTup es.length (chkL es)
  | .lst es => kLst es.length (chkL es)
  | .call f es => kCall C f es.length (chkL es)
  | .callc f es => kCall C f es.length (chkL es)
  | .callk f es => kCallk C f es.length (chkL es)
  | .cell e => chkE e
  | .op o a b => kOp o (chkE a) (chkE b)
  | .neg a => kNeg (chkE a)
  | .cmp o a b => kCmp o (chkE a) (chkE b)
  | .chain o o' a b c => kChain o o' (chkE a) (chkE b) (chkE c)
  | .isN a => kIsN (chkE a)
  | .isnN a => kIsnN (chkE a)
  | .band es => kAnd (chkL es)
  | .bor es => kOr (chkL es)
  | .not a => kNot (chkE a)
  | .ite c a b => kIte (chkE c) (chkE a) (chkE b)
  | .idx a i => kIdx (chkE a) (chkE i)
  | .sl a => kSl (chkE a)
  | .slL a l => kSlL (chkE a) (chkE l)
  | .slU a h => kSlU (chkE a) (chkE h)
  | .slLU a l h => kSlLU (chkE a) (chkE l) (chkE h)
  | .rev a => kRev (chkE a)
  | .bi b es => match b with
    | .sortedset => kSet C (chkL es)
    | b => kBi C b es.length (chkL es)
  | .isi a cs => kIsi C cs (chkE a)
  | .pop i e => kPop C i (chkE e)
  | .lc own t k src tests elt => kLc C own t k (chkL src) (chkL tests) (chkE elt)
  | .lc2 .. => fun _ _ _ => false
def chkL : List E → CkL
  | [] => fun _ _ xs => xs.isEmpty
  | e :: es => fun sc fb xs => match xs with
    | [] => false
    | x :: xs => notStar x && chkE e sc fb x && chkL es sc fb xs
end
end
end Ra


set_option Elab.async false
set_option linter.all false
set_option autoImplicit false
set_option maxRecDepth 100000
/-! isinstance, list, tuple -/
namespace Ra
open PySem PySem.Spec PyProof.Rows L2
def tyN : PyData → String
  | .none => "NoneType"
  | .bool _ => "bool"
  | .int _ => "int"
  | .str _ => "str"
  | .list _ => "list"
  | .tuple _ => "tuple"
  | .dict _ => "dict"
def clsS : Cls → String
  | .int => "int"
  | .bool => "bool"
  | .str => "str"
  | .list => "list"
  | .tuple => "tuple"
  | .dict => "dict"
theorem kit_isi {K : PySem.W.Frag} {F : Addr → Prop} {H : Hp} {x : V} {d : PyData} (h : Rr K F H x d) (c : Cls) : kitB (tyN d) (clsS c) = some (isi d c) := by
  cases d with
  | dict _ => cases h
  | none => cases c <;> (dsimp only [tyN, clsS, isi]; decide +kernel)
  | bool _ => cases c <;> (dsimp only [tyN, clsS, isi]; decide +kernel)
  | int _ => cases c <;> (dsimp only [tyN, clsS, isi]; decide +kernel)
  | str _ => cases c <;> (dsimp only [tyN, clsS, isi]; decide +kernel)
  | list _ => cases c <;> (dsimp only [tyN, clsS, isi]; decide +kernel)
  | tuple _ => cases c <;> (dsimp only [tyN, clsS, isi]; decide +kernel)
theorem ty_of {K : PySem.W.Frag} {F : Addr → Prop} {H : Hp} {x : V} {d : PyData} (h : Rr K F H x d) : TyX K H x (.type (tyN d)) := by
  cases d with
  | none => rw [h.none]; exact .base .non
  | bool b => rw [h.bool]; exact .base (.bl b)
  | int b => rw [h.int]; exact .base (.int b)
  | str b => rw [h.str]; exact .base (.str b)
  | list b =>
    obtain ⟨a, xs, rfl, h1, _⟩ := h.lst
    rcases h1 with h1 | ⟨o, h1⟩
    · exact .base (.lst h1)
    · exact .base (.frz h1)
  | tuple b =>
    obtain ⟨a, xs, rfl, h1, _⟩ := h.tup
    rcases h1 with (h1 | ⟨o, h1⟩) | ⟨o, its, n, h1, h2, _⟩
    · exact .base (.tup h1)
    · exact .fTuple h1
    · exact .kTuple h1 h2
  | dict _ => cases h
theorem boot_cls : ∀ c : Cls, bootBuiltins (clsN c) = some (.type (clsS c)) := by
  intro c
  cases c <;> (dsimp only [clsN, clsS]; decide +kernel)
section
variable {X : Cx} {e : Expr} {p : P} {pos : Pos}
theorem okName_ok {x : Str} (h : okName x = true) : (x == ("__debug__" : Str)) = false ∧ (x == ("__classdict__" : Str)) = false ∧ x ≠ "__name__" := by
  unfold okName at h
  simp only [Bool.and_eq_true, Bool.not_eq_true', decide_eq_true_eq] at h
  exact ⟨h.1.1, h.1.2, h.2⟩
theorem pe_clsR {c : Cls} {x : Str} {q : Pos} (hx : x = clsN c) (hg : Gl X x) (hm : X.mg x = none) (ok : okName x = true) : PE X (.Name x q) (tC (.ty (clsS c))) := by
  obtain ⟨o1, o2, o3⟩ := okName_ok ok
  refine pe_bltn hg hm (u := .type (clsS c)) ?_ rfl o3 o1
  rw [hx]; exact boot_cls c
theorem pe_isi1R {c : Cls} {x y : Str} {q q2 : Pos} (hx : x = "isinstance") (hg : Gl X x) (hm : X.mg x = none) (ok : okName x = true) (ha : PE X e (tE X.K p.v)) (ns : notStar e = true) (hy : y = clsN c) (hgy : Gl X y) (hmy : X.mg y = none) (oky : okName y = true) :
    PE X (.Call (.Name x q) [e, .Name y q2] [] pos) (tE X.K (c1 p fun x m => boolR ([c].any (isi x)) m)) := by
  obtain ⟨o1, o2, o3⟩ := okName_ok ok
  refine PE.weak (pe_callB call_isi hg hm (by rw [hx]; decide +kernel) (pa_cons ha (pa_cons (pe_clsR hy hgy hmy oky) pa_nil) (star1 ns _ _)) o3 o1 (star1 ns _ _) rfl) fun σ H Q h => ?_
  obtain ⟨env, m, g, hs, hm, hz⟩ := c1_ok h
  refine ⟨env, m, g, hs, hm, hz.mono fun v m1 g1 H1 e1 s1 z1 x rx => ?_⟩
  obtain ⟨m2, g2, d, s2, r2, z2⟩ := z1 x rx
  refine ⟨x, .ty (clsS c), _, _, _, rfl, .ty _, ty_of r2, kit_ty (kit_isi r2 c), ?_⟩
  have z3 : Rz X.K (boolR (isi d c) m2) g2 H1 (Ans X.K Q) := by
    have e : [c].any (isi d) = isi d c := by simp
    rw [← e]; exact z2
  exact ans_d s2 z3 (.bl _)
/-- the classes of a tuple -/
inductive ClsE (X : Cx) : List Cls → List Expr → Prop
  | nil : ClsE X [] []
  | cons {c : Cls} {cs : List Cls} {y : Str} {q : Pos} {es : List Expr} : y = clsN c → Gl X y → X.mg y = none → okName y = true → ClsE X cs es → ClsE X (c :: cs) (.Name y q :: es)
theorem pa_cls : ∀ {cs : List Cls} {es : List Expr}, ClsE X cs es → PA X es (fun _ H Q => Q (cs.map fun c => V.ty (clsS c)) H)
  | _, _, .nil => pa_nil
  | _, _, .cons a b c d t => PA.weak (pa_cons (pe_clsR a b c d) (pa_cls t)) fun _ _ _ h => h
theorem cls_paired : ∀ cs : List Cls, Paired ClsV (cs.map fun c => V.ty (clsS c)) (cs.map fun c => Value.type (clsS c))
  | [] => .nil
  | c :: cs => .cons (.ty _) (cls_paired cs)
theorem kit_any {K : PySem.W.Frag} {F : Addr → Prop} {H : Hp} {x : V} {d : PyData} (h : Rr K F H x d) : ∀ cs : List Cls, PySem.W.kitAny K (.type (tyN d)) (cs.map fun c => Value.type (clsS c)) = some (cs.any (isi d))
  | [] => kitAny_nil
  | c :: cs => kitAny_cons (kit_ty (kit_isi h c)) (fun hb => by
      rw [kit_any h cs]
      simp [hb]) fun hb => by simp [hb]
theorem pe_isiTR {cs : List Cls} {x : Str} {q q2 : Pos} {k : Nat} {es : List Expr} (hx : x = "isinstance") (hg : Gl X x) (hm : X.mg x = none) (ok : okName x = true) (ha : PE X e (tE X.K p.v)) (ns : notStar e = true) (hc : ClsE X cs es) (hl : cs.length ≤ 1000) :
    PE X (.Call (.Name x q) [e, .Tuple es k q2] [] pos) (tE X.K (c1 p fun x m => boolR (cs.any (isi x)) m)) := by
  obtain ⟨o1, o2, o3⟩ := okName_ok ok
  refine PE.weak (pe_callB call_isiT hg hm (by rw [hx]; decide +kernel) (pa_cons ha (pa_cons (pe_tup (pa_cls hc)) pa_nil) (star1 ns _ _)) o3 o1 (star1 ns _ _) rfl) fun σ H Q h => ?_
  obtain ⟨env, m, g, hs, hm, hz⟩ := c1_ok h
  refine ⟨env, m, g, hs, hm, hz.mono fun v m1 g1 H1 e1 s1 z1 x rx => ?_⟩
  obtain ⟨m2, g2, d, s2, r2, z2⟩ := z1 x rx
  have hlen : (cs.map fun c => V.ty (clsS c)).length ≤ sizeLine := by rw [List.length_map, sizeLine_eq]; omega
  refine ⟨hlen, fun p hp => ?_⟩
  have e3 := ext_new (o := .tup (cs.map fun c => V.ty (clsS c))) s2 hp
  have s3 := sim_new (o := .tup (cs.map fun c => V.ty (clsS c))) s2 hp hlen
  have r3 : Rr X.K g2.F (upd H1 p (.tup (cs.map fun c => V.ty (clsS c)))) x d := by
    cases d with
    | list ds =>
      obtain ⟨a, ws, rfl, h1, h2⟩ := r2.lst
      refine ⟨a, ws, rfl, ?_, RpAll.ext e3 _ h2⟩
      rcases h1 with h1 | ⟨o, h1⟩
      · exact .inl (by rw [upd_ne (ne_of_none h1 hp)]; exact h1)
      · exact .inr ⟨o, by rw [upd_ne (ne_of_none h1 hp)]; exact h1⟩
    | none => exact Rp.ext e3 _ r2
    | bool _ => exact Rp.ext e3 _ r2
    | int _ => exact Rp.ext e3 _ r2
    | str _ => exact Rp.ext e3 _ r2
    | tuple _ => exact Rp.ext e3 _ r2
    | dict _ => cases r2
  exact ⟨x, p, _, _, _, _, rfl, upd_same, cls_paired cs, ty_of r3, kit_any r3 cs, ans_d s3 (z2.ext e3) (.bl _)⟩
end
end Ra


set_option Elab.async false
set_option linter.all false
set_option autoImplicit false
set_option maxRecDepth 100000
/-! list(x), tuple(x) -/
namespace Ra
open PySem PySem.Spec PyProof.Rows L2
section
variable {prog : Program} {w : World} {A : Around} {E : Value → Shared → Prop} {s : Shared}
/-- a text's signs go to the end of the list at S -/
theorem text_into {R : Result → Shared → Prop} (hh : A.handled = none) (x : Str) (t : Tok) (S : Addr) (c0 : Nat) (hS : s.heap.get? S = some { cls := .type "list", data := .seq #[] c0 }) (hn : x.cps.size ≤ sizeLine)
    (fin : ∀ s' acc c', (∀ b o, b ≠ S → s.heap.get? b = some o → s'.heap.get? b = some o) → s'.gens = s.gens → s'.drawn = s.drawn → s'.os = s.os → s'.heap.get? S = some { cls := .type "list", dict := none, data := .seq acc c', slots := #[] } → ItemsOf (SignAt x) acc x.cps.size → R (.ok (.ret .none)) s') :
    wpAny (model prog w) A.in1 (Builtin.List.listExtendWith (.ref S) (.str x t) .none)
      (fun f s' => match f with | .done g => R (.ok g) s' | .again c' => c'.quiet = true ∧ codeAny (model prog w) A c' R s') (fun e s' => R (.error e) s') s := by
  unfold Builtin.List.listExtendWith
  refine wpAny_bind (wpAny_typeOf (T := "str") (v := .str x t) rfl ?_)
  have a1 : Builtin.List.listSameRef (.ref S) (.str x t) = false := rfl
  have a2 : (Value.type "str" == Value.type "list") = false := by decide
  have a3 : (Value.type "str" == Value.type "tuple") = false := by decide
  simp only [a1, a2, a3, Bool.or_false, Bool.false_eq_true, if_false]
  refine wpAny_bind (wpAny_pyIter_str fun ob St W st0 => ?_)
  refine wpAny_bind (wpAny_holding ?_)
  unfold Builtin.List.listLengthHint
  refine wpAny_bind (wpAny_specialOf (T := "str") (v := .str x t) rfl PySem.F.str_len ?_)
  wp_delta
  refine wpAny_bind (wpAny_isInstance (T := "str") (v := .str x t) (b := true) rfl (by rw [isSubtype_type]; kernel_rfl) ?_)
  show wpAny _ A.in1 (typeOf (Value.str x t) >>= _) _ _ _
  refine wpAny_bind (wpAny_typeOf (T := "str") (v := .str x t) rfl (wpAny_pure ?_))
  rw [if_neg (by decide)]
  have lt : S < s.heap.objs.size := Heap.lt_size hS
  have hSf : S ∉ [s.heap.objs.size] := fun q => absurd lt (by rw [List.mem_singleton.mp q]; exact Nat.lt_irrefl _)
  have hS1 : (s.heap.push ob).get? S = some { cls := .type "list", data := .seq #[] c0 } := Heap.get?_push_of_some _ hS
  refine wpAny_pure ⟨plainId_quiet PySem.F.plain_extend_loop _, codeAny_extend_loopS (W A.in1 hh).toS hn S hSf _ x.cps.size 0 _ _ _ rfl (Nat.zero_le _) st0 hS1 (ItemsOf.nil _) fun s' acc c' hm hS' hacc => ?_⟩
  refine fin s' acc c' (fun b o hb e => hm.heap b o (fun q => ?_) (Heap.get?_push_of_some _ e)) hm.gens hm.drawn hm.os hS' hacc
  rcases List.mem_cons.mp q with q | q
  · exact hb q
  · exact absurd (Heap.lt_size e) (by rw [List.mem_singleton.mp q]; exact Nat.lt_irrefl _)
theorem call_list_text {Q : Value → Shared → Prop} (hh : A.handled = none) (x : Str) (t : Tok) (hn : x.cps.size ≤ sizeLine)
    (fin : ∀ s' acc c', (∀ b o, s.heap.get? b = some o → s'.heap.get? b = some o) → s'.gens = s.gens → s'.drawn = s.drawn → s'.os = s.os → s'.heap.get? s.heap.objs.size = some { cls := .type "list", dict := none, data := .seq acc c', slots := #[] } → ItemsOf (SignAt x) acc x.cps.size → Q (.ref s.heap.objs.size) s') :
    wpAny (model prog w) A (call (.type "list") [.str x t]) Q E s := by
  refine callType_codes (Q₁ := fun o1 s1 => o1 = .ref s.heap.objs.size ∧ s1 = { s with heap := s.heap.push { cls := .type "list", data := .seq #[] } }) PySem.F.called_list (PySem.F.typeCall_list_1 _) PySem.F.entry_list_init (code_list_new _ ⟨rfl, rfl⟩) fun o1 s1 q1 => ?_
  obtain ⟨rfl, rfl⟩ := q1
  have new : (s.heap.push { cls := .type "list", data := .seq #[] }).get? s.heap.objs.size = some { cls := .type "list", data := .seq #[] } := Heap.get?_push_size _ rfl
  refine ⟨⟨_, new, rfl⟩, PySem.F.args_list_init_2 _ _, ?_⟩
  show wpAny _ _ (do let old ← Builtin.List.listItems (.ref s.heap.objs.size); Builtin.List.listUpdate (.ref s.heap.objs.size) (fun _ => #[]); letGo old.toList.reverse; Builtin.List.listExtendWith (.ref s.heap.objs.size) (.str x t) .none) _ _ _
  refine wpAny_bind ?_
  unfold Builtin.List.listItems
  refine wpAny_bind (wpAny_seqItems new rfl (wpAny_pure ?_))
  refine wpAny_bind (wpAny_updateSeq new rfl ?_)
  have new2 := Heap.get?_update_self (Obj.mapSeq (fun _ => (#[] : Array Value))) new rfl
  refine wpAny_bind (wpAny_letGo ?_)
  refine text_into (A := A.in1) hh x t _ _ new2 hn fun s' acc c' hk hg hd ho hS' hacc => ?_
  exact ⟨rfl, fin s' acc c' (fun b o e => hk b o (Nat.ne_of_lt (Heap.lt_size e)) ((Heap.get?_update_other _ _ (Nat.ne_of_gt (Heap.lt_size e))).trans (Heap.get?_push_of_some _ e))) hg hd ho hS' hacc⟩
end
section
variable {X : Cx}
theorem signs_vals {x : Str} {acc : Array Value} (h : ItemsOf (SignAt x) acc x.cps.size) : Vals (x.cps.toList.map fun c => V.str ⟨#[c]⟩) acc.toList := by
  refine vals_of_at (by simp [h.1]) fun j y u e1 e2 => ?_
  rw [Array.getElem?_toList] at e2
  obtain ⟨c, tk, hc, rfl⟩ := h.2 j u e2
  rw [List.getElem?_map, Array.getElem?_toList, hc] at e1
  cases e1
  exact ⟨tk, rfl⟩
theorem signs_rp {K : PySem.W.Frag} {F : Addr → Prop} {H : Hp} {z : Str} (hz : sOk z = true) : RpAll K F H (z.cps.toList.map fun c => V.str ⟨#[c]⟩) (signs z) := by
  have key : ∀ l : List Nat, (∀ c ∈ l, c ∈ z.cps.toList) → RpAll K F H (l.map fun c => V.str ⟨#[c]⟩) (l.map one) := by
    intro l
    induction l with
    | nil => intro _; exact .nil
    | cons c l ih => exact fun h => .cons (.str _ (sok_one hz (h c List.mem_cons_self))) (ih fun c' h' => h c' (List.mem_cons_of_mem _ h'))
  exact key _ fun _ h => h
theorem items_ok {K : PySem.W.Frag} {F : Addr → Prop} {H : Hp} {x : V} {d : PyData} {is : List PyData} (h : Rr K F H x d) (e : items d = some is) :
    (∃ a xs, x = .ref a ∧ Rd H a (.lst xs) ∧ RpAll K F H xs is) ∨ (∃ a xs, x = .ref a ∧ SqT K H a xs ∧ RpAll K F H xs is ∧ d = .tuple is) ∨ ∃ z, x = .str z ∧ sOk z = true ∧ is = signs z := by
  cases d with
  | list ds => cases e; exact .inl h.lst
  | tuple ds =>
    cases e
    obtain ⟨a, xs, h1, h2, h3⟩ := h.tup
    exact .inr (.inl ⟨a, xs, h1, h2, h3, rfl⟩)
  | str z => cases e; exact .inr (.inr ⟨z, h.str, h.sok, rfl⟩)
  | none => cases e
  | bool _ => cases e
  | int _ => cases e
  | dict _ => cases e
theorem cr_list' (hc : X.calm = true) : CallR X (.type "list") (rBi X.K (bi .list)) := by
  intro pins s σ H vs us Q I r h
  obtain ⟨m, g, ds, S, hx, hz0⟩ := h
  obtain ⟨w, hw, hz⟩ := Rz.opt hz0
  clear hz0
  replace hw : listD ds = some w := hw
  unfold listD at hw
  split at hw
  · obtain ⟨is, hi, e⟩ := Option.map_eq_some_iff.mp hw
    subst e
    obtain ⟨x, rfl, h⟩ := hx.one
    rcases items_ok h hi with ⟨a, xs, rfl, h1, h2⟩ | ⟨a, xs, rfl, h1, h2, _⟩ | ⟨z, rfl, h1, rfl⟩
    · exact call_list_of pins s σ H _ us Q I r ⟨a, xs, rfl, .inl (.inl h1), fun l hl => ans_l S hz h2 (rd_len S h1) hl⟩
    · exact call_list_of pins s σ H _ us Q I r ⟨a, xs, rfl, .inr h1, fun l hl => ans_l S hz h2 (sq_len S h1) hl⟩
    · obtain ⟨u, rfl, t, rfl⟩ := vals1 r
      have hl := sok_len h1
      refine call_list_text (I.ok.hd hc) z t hl fun s' acc c' hk hg hd ho hS' hacc => ?_
      obtain ⟨h', g', d', t', o'⟩ := s'
      obtain rfl : g' = s.gens := hg
      obtain rfl : d' = s.drawn := hd
      obtain rfl : o' = s.os := ho
      have hv := signs_vals hacc
      have hlen : (z.cps.toList.map fun c => V.str ⟨#[c]⟩).length ≤ sizeLine := by
        rw [List.length_map, Array.length_toList]; exact hl
      refine ⟨.ref _, upd H s.heap.objs.size (.lst (z.cps.toList.map fun c => V.str ⟨#[c]⟩)), I.laid (t' := t') hk (Nat.le_refl _) ⟨hlen, acc.toList, c', hv, ?_⟩, rfl, ans_l S hz (signs_rp h1) hlen I.fresh⟩
      rw [Array.toArray_toList]; exact hS'
  · cases hw
theorem cr_tuple' (hc : X.calm = true) : CallR X (.type "tuple") (rBi X.K (bi .tuple)) := by
  intro pins s σ H vs us Q I r h
  obtain ⟨m, g, ds, S, hx, hz0⟩ := h
  obtain ⟨w, hw, hz⟩ := Rz.opt hz0
  clear hz0
  replace hw : tupleD ds = some w := hw
  unfold tupleD at hw
  split at hw
  · obtain ⟨is, hi, e⟩ := Option.map_eq_some_iff.mp hw
    subst e
    obtain ⟨x, rfl, h⟩ := hx.one
    rcases items_ok h hi with ⟨a, xs, rfl, h1, h2⟩ | ⟨a, xs, rfl, h1, h2, _⟩ | ⟨z, rfl, h1, rfl⟩
    · exact call_tuple_of pins s σ H _ us Q I r ⟨a, xs, rfl, .inl ⟨.inl h1, fun l hl => ans_t S hz h2 (rd_len S h1) hl⟩⟩
    · exact call_tuple_of pins s σ H _ us Q I r ⟨a, xs, rfl, .inr ⟨h1, ans_d S hz (.tup h1 h2)⟩⟩
    · obtain ⟨u, rfl, t, rfl⟩ := vals1 r
      have hl := sok_len h1
      refine call_tuple_str (I.ok.hd hc) z t (fun h' tk acc hk hacc => ?_) hl
      have hv := signs_vals hacc
      have hlen : (z.cps.toList.map fun c => V.str ⟨#[c]⟩).length ≤ sizeLine := by
        rw [List.length_map, Array.length_toList]; exact hl
      have I1 : Inv X pins σ H { s with heap := h', toks := tk } := I.kept (t' := tk) hk
      refine ⟨.ref _, upd H h'.objs.size (.tup (z.cps.toList.map fun c => V.str ⟨#[c]⟩)), I1.laid (t' := tk) (fun b o e => Heap.get?_push_of_some _ e) (Nat.le_refl _) ⟨hlen, acc.toList, hv, ?_⟩, rfl, ans_t S hz (signs_rp h1) hlen (I1.hok.fresh (Nat.le_refl _))⟩
      rw [Array.toArray_toList]; exact IsTup.new h' acc
  · cases hw
end
end Ra


set_option Elab.async false
set_option linter.all false
set_option autoImplicit false
set_option maxRecDepth 100000
/-! x[::-1] -/
namespace Ra
open PySem PySem.Spec PyProof.Rows L2
theorem back_adjust (n : Nat) : Builtin.Slice.sliceAdjust none none (-1) (n : Int) = ((n : Int) - 1, -1) := by
  unfold Builtin.Slice.sliceAdjust
  simp
theorem back_places (n : Nat) : Builtin.Slice.slicePlaces ((n : Int) - 1) (-1) (-1) = n := by
  unfold Builtin.Slice.slicePlaces
  simp
  omega
theorem back_pick (xs : Array Value) : ((List.range xs.size).filterMap fun (k : Nat) => xs[(((xs.size : Int) - 1) + (k : Int) * (-1)).toNat]?).toArray = xs.toList.reverse.toArray := by
  congr 1
  apply List.ext_getElem?
  intro i
  have all : ∀ (l : List Nat), (∀ k ∈ l, k < xs.size) → l.filterMap (fun (k : Nat) => xs[(((xs.size : Int) - 1) + (k : Int) * (-1)).toNat]?) = l.map fun k => xs.getD (xs.size - 1 - k) .none := by
    intro l
    induction l with
    | nil => intro _; rfl
    | cons k l ih =>
      intro h
      have hk := h k List.mem_cons_self
      have e1 : (((xs.size : Int) - 1) + (k : Int) * (-1)).toNat = xs.size - 1 - k := by omega
      have hlt : xs.size - 1 - k < xs.size := by omega
      rw [List.filterMap_cons, e1, Array.getElem?_eq_getElem hlt, List.map_cons, ih fun k' h' => h k' (List.mem_cons_of_mem _ h')]
      simp [Array.getD, hlt]
  rw [all _ fun k h => List.mem_range.mp h]
  by_cases hi : i < xs.size
  · rw [List.getElem?_map, List.getElem?_range hi, List.getElem?_reverse (by simpa using hi)]
    have hlt : xs.size - 1 - i < xs.size := by omega
    simp [Array.getD, hlt]
  · rw [List.getElem?_eq_none (by simp; omega), List.getElem?_eq_none (by simp; omega)]
section
variable {prog : Program} {w : World} {A : Around} {E : Value → Shared → Prop} {s : Shared}
theorem part_at {v : Value} {o : Option Int} {Q : Option Int → Shared → Prop} (p : IsPart v o) (h : Q o s) : wpAny (model prog w) A (Builtin.Slice.slicePartIndex v) Q E s := HT.slicePart_ p h
theorem back_applied {sl : Addr} {vl vu vs : Value} {n : Nat} {Q : Int × Int × Nat → Shared → Prop} (hs : s.heap.IsSliceOf sl vl vu vs) (pl : IsPart vl none) (pu : IsPart vu none) (pz : IsPart vs (some (-1))) (h : Q ((n : Int) - 1, -1, n) s) :
    wpAny (model prog w) A (Builtin.Slice.sliceApplied (.ref sl) (pure (n : Int))) Q E s := by
  obtain ⟨ob, hob, hcb, hdb⟩ := id hs
  unfold Builtin.Slice.sliceApplied Builtin.Slice.sliceFields
  refine wpAny_bind (wpAny_bind (wpAny_field hob hdb (x := vl) rfl (wpAny_bind (wpAny_field hob hdb (x := vu) rfl (wpAny_bind (wpAny_field hob hdb (x := vs) rfl (wpAny_pure ?_)))))))
  refine wpAny_bind (part_at pz ?_)
  show wpAny _ _ (if ((-1 : Int) == 0) = true then _ else _) _ _ s
  rw [if_neg (by decide)]
  refine wpAny_bind (part_at pl (wpAny_bind (part_at pu (wpAny_bind (wpAny_pure ?_)))))
  show wpAny _ _ (match Builtin.Slice.sliceAdjust none none (-1) (n : Int) with | (lo, hi) => pure (lo, (-1 : Int), Builtin.Slice.slicePlaces lo hi (-1))) _ _ s
  rw [back_adjust n]
  show wpAny _ _ (pure ((n : Int) - 1, (-1 : Int), Builtin.Slice.slicePlaces ((n : Int) - 1) (-1) (-1))) _ _ s
  rw [back_places]
  exact wpAny_pure h
theorem tuple_back {t sl : Addr} {its : Array Value} {vl vu vs : Value} {Q : Value → Shared → Prop} (ht : IsTup s.heap t its) (hs : s.heap.IsSliceOf sl vl vu vs) (pl : IsPart vl none) (pu : IsPart vu none) (pz : IsPart vs (some (-1)))
    (h : Q (.ref s.heap.objs.size) { s with heap := s.heap.push { cls := .type "tuple", data := .seq its.toList.reverse.toArray } }) (hz : its.size ≤ sizeLine) : wpAny (model prog w) A (getItem (.ref t) (.ref sl)) Q E s := by
  have hok : sizeOk (.seq its.toList.reverse.toArray) := by
    show its.toList.reverse.toArray.size ≤ sizeLine
    rw [List.size_toArray, List.length_reverse, Array.length_toList]
    exact hz
  obtain ⟨ob, hob, hcb, hdb⟩ := id hs
  have tys : s.TypeIs (.ref sl) "slice" := ⟨ob, hob, hcb⟩
  unfold getItem
  try with_reducible refine wpAny_holding ?_
  first | refine wpAny_bind (wpAny_pure ?_) | skip
  refine wpAny_bind (wpAny_sequenceKey ht.typeIs (by decide) ?_)
  refine wpAny_bind (wpAny_callSpecial?_slot (name := Str.ofString "__getitem__") ht.typeIs PyProof.Rows.slot_tuple_getitem (wpAny_call_entry PyProof.Rows.slot_tuple_getitem ht.typeIs PyProof.Rows.entry_tuple_getitem ?_ (PyProof.Rows.args_tuple_getitem _ _)))
  show wpAny _ _ (Builtin.Tuple.tupleItemsOf (.ref t) >>= _) _ _ s
  refine wpAny_bind (PyProof.Rows.tupleItemsOf_ ht ?_)
  refine wpAny_bind (wpAny_typeOf tys ?_)
  rw [if_pos (by decide)]
  refine wpAny_bind (back_applied (n := its.size) hs pl pu pz ?_)
  have no : ¬ (((((its.size : Int) - 1) == 0) && (-1 : Int) == 1 && its.size == its.size) = true) := by simp
  show wpAny _ _ (if ((((its.size : Int) - 1) == 0) && (-1 : Int) == 1 && its.size == its.size) = true then _ else _) _ _ s
  rw [if_neg no, back_pick]
  first
    | exact wpAny_bind (m := Builtin.Tuple.tupleExact _) (wpAny_newObj_type (wpAny_pure ⟨_, rfl, wpAny_pure h⟩) hok)
    | exact wpAny_bind (m := Builtin.Tuple.tupleExact _) (wpAny_newObj_type (wpAny_bind (wpAny_pure (wpAny_pure ⟨_, rfl, wpAny_pure h⟩))) hok)
    | exact wpAny_bind (wpAny_bind (m := Builtin.Tuple.tupleExact _) (wpAny_newObj_type (wpAny_pure (wpAny_pure ⟨_, rfl, wpAny_pure h⟩)) hok))
    | exact wpAny_bind (wpAny_bind (m := Builtin.Tuple.tupleExact _) (wpAny_newObj_type (wpAny_pure ⟨_, rfl, wpAny_pure h⟩) hok))
end
section
variable {X : Cx} {e : Expr} {p : P} {pos : Pos}
theorem pe_revR {k : Nat} {i : Int} {p1 p2 p3 : Pos} (hi : i = 1) (he : PE X e (tE X.K p.v)) :
    PE X (.Subscript e (.Slice none none (some (.UnaryOp .USub (.Constant (.int i) k p1) p2)) p3) pos) (tE X.K (c1 p fun x m => optR (revd x) m)) := by
  subst hi
  refine ⟨fun pins s σ H Q I h => ?_⟩
  have h := c1_ok h
  refine Subscript_ (thn (he.run pins s σ H _ I h) fun v s1 ⟨x, H1, I1, r1, q1⟩ => ?_)
  obtain ⟨m, g, d, S, rd_, hz⟩ := q1
  obtain ⟨wv, hw, hz⟩ := Rz.opt hz
  have step : PO X (some (.UnaryOp .USub (.Constant (.int 1) k p1) p2)) (tPart (tUn (rU fun i => .int (-i)) (tC (.int 1)))) := po_some (pe_un un_neg pe_int)
  refine wpAny_Slice (thn (po_none.run pins s1 σ H1 (fun o H2 => o = none ∧ H2 = H1) I1 ⟨rfl, rfl⟩) fun vl s2 ⟨l, H2, I2, pl, el, e2⟩ => ?_)
  subst el e2
  refine thn (po_none.run pins s2 σ H2 (fun o H3 => o = none ∧ H3 = H2) I2 ⟨rfl, rfl⟩) fun vu s3 ⟨u, H3, I3, pu, eu, e3⟩ => ?_
  subst eu e3
  refine thn (step.run pins s3 σ H3 (fun o H4 => o = some (-1) ∧ H4 = H3) I3 ⟨1, rfl, -1, rfl, rfl, rfl⟩) fun vz s4 ⟨o, H4, I4, pz, eo, e4⟩ => ?_
  subst eo e4
  have I5 : Inv X pins σ H4 { s4 with heap := s4.heap.push { cls := .type "slice", data := .fields #[vl, vu, vz] } } := I4.kept (t' := s4.toks) fun b ob q => Heap.get?_push_of_some _ q
  unfold revd at hw
  split at hw
  · cases hw
    obtain ⟨a, xs, rfl, hx, h2⟩ := rd_.lst
    cases r1
    obtain ⟨its, r, ht, hlen⟩ := I5.list (.inl hx)
    show wpAny (model X.prog X.w) X.A (subscriptTail e (.Slice none none (some (.UnaryOp .USub (.Constant (.int 1) k p1) p2)) p3) (.ref a) (.ref s4.heap.objs.size)) (EP X pins σ Q) X.xe _
    refine tail_any (ops := [.ref a, .ref s4.heap.objs.size]) ht.isList.typeIs (PySem.slot_list_getitem.lookup) ?_ (by with_unfolding_all rfl)
    refine wpAny_getItem_list_slice ht.isList (Heap.IsSliceOf.new _ vl vu vz) pl pu pz (by decide) ?_ (by rw [List.size_toArray, ← r.length]; exact hlen)
    rw [PySem.W.krv_pick]
    have hl2 : xs.reverse.length ≤ sizeLine := by rw [List.length_reverse]; exact hlen
    exact ⟨.ref _, _, I5.laid (t' := s4.toks) (o := .lst xs.reverse) (fun b ob q => Heap.get?_push_of_some _ q) (Nat.le_refl _) ⟨hl2, _, 0, r.reverse, Heap.get?_push_size _ rfl⟩, rfl, ans_l S hz h2.rev hl2 (I5.hok.fresh (Nat.le_refl _))⟩
  · cases hw
    obtain ⟨a, xs, rfl, hx, h2⟩ := rd_.tup
    cases r1
    obtain ⟨its, r, ht, hlen⟩ := I5.tuple hx
    show wpAny (model X.prog X.w) X.A (subscriptTail e (.Slice none none (some (.UnaryOp .USub (.Constant (.int 1) k p1) p2)) p3) (.ref a) (.ref s4.heap.objs.size)) (EP X pins σ Q) X.xe _
    refine tail_any (ops := [.ref a, .ref s4.heap.objs.size]) ht.typeIs (PyProof.Rows.slot_tuple_getitem.lookup) ?_ (by with_unfolding_all rfl)
    refine tuple_back ht (Heap.IsSliceOf.new _ vl vu vz) pl pu pz ?_ (by rw [List.size_toArray, ← r.length]; exact hlen)
    have hl2 : xs.reverse.length ≤ sizeLine := by rw [List.length_reverse]; exact hlen
    exact ⟨.ref _, _, I5.laid (t' := s4.toks) (o := .tup xs.reverse) (fun b ob q => Heap.get?_push_of_some _ q) (Nat.le_refl _) ⟨hl2, _, r.reverse, IsTup.new _ _⟩, rfl, ans_t S hz h2.rev hl2 (I5.hok.fresh (Nat.le_refl _))⟩
  · cases hw
end
end Ra


set_option Elab.async false
set_option linter.all false
set_option autoImplicit false
set_option maxRecDepth 100000
/-! sorted(set(e)) -/
namespace Ra
open PySem PySem.Spec PyProof.Rows L2
/-! ### sets of texts -/
def keyS (e : Int × Value) : Str := match e.2 with
  | .str k _ => k
  | _ => ⟨#[]⟩
def GoodS (w : World) (e : Int × Value) : Prop := ∃ k tk, e = (hashStr w k, Value.str k tk)
/-- the set at a holds the texts L; it can be walked -/
def SetS (w : World) (h : Heap) (a : Addr) (L : List Str) : Prop :=
  ∃ o es ep t, (h.get? a = some o ∧ o.ExactSet ∧ o.data = .set es ep t) ∧ (∀ e ∈ es.toList, GoodS w e) ∧ (es.toList.map keyS).Perm L ∧ L.Nodup ∧ (es.size < scanBound ∧ t.fits es.size = true) ∧ Ris t.place.toList ∧ (w.params.followText "set-order" = true ∨ t.led = true)
section
variable {P : Program} {w : World} {A : Around} {E : Value → Shared → Prop} {s : Shared} {a : Addr} {L : List Str}
theorem SetS.keep {h h' : Heap} (R : SetS w h a L) (k : ∀ o, h.get? a = some o → h'.get? a = some o) : SetS w h' a L := by
  obtain ⟨o, es, ep, t, ⟨ho, q⟩, r⟩ := R
  exact ⟨o, es, ep, t, ⟨k o ho, q⟩, r⟩
theorem goodS_elems {l : List (Int × Value)} (g : ∀ e ∈ l, GoodS w e) : ElemsOf (strKind P w) l := fun e he => by
  obtain ⟨k, tk, rfl⟩ := g e he
  exact ⟨⟨k, PySem.Froz.is_str k tk, rfl⟩, rfl⟩
theorem goodS_is {e : Int × Value} (g : GoodS w e) (k : Str) : (strKind P w).is k e.2 = true ↔ keyS e = k := by
  obtain ⟨k0, tk, rfl⟩ := g
  constructor
  · intro h
    exact (strKind P w).inj (.str k0 tk) k0 k (PySem.Froz.is_str k0 tk) h
  · rintro rfl
    exact PySem.Froz.is_str k0 tk
theorem setS_tail {gv : Bool → Sem Unit} (hg : ∀ (b : Bool) (s₁ : Shared) (Q' : Unit → Shared → Prop), Q' () s₁ → wpAny (model P w) A (gv b) Q' E s₁) {o : Obj} {es : Array (Int × Value)} {ep : Nat} {t : SetTable}
    (ho : s.heap.get? a = some o) (hex : o.ExactSet) (hd : o.data = .set es ep t) {fs : Array (Int × Value)} {t2 : SetTable} {L' : List Str} (g1 : ∀ e ∈ fs.toList, GoodS w e) (p1 : (fs.toList.map keyS).Perm L') (nd1 : L'.Nodup)
    (hb1 : fs.size < scanBound) (hf2 : t2.fits fs.size = true) (hr : Ris t2.place.toList) (hl : w.params.followText "set-order" = true ∨ t2.led = true) {dm : Bool} {R : Option Bool → Shared → Prop}
    (hR : ∀ h', Heap.SameBut a s.heap h' → SetS w h' a L' → R (some true) { s with heap := h' }) :
    wpAny (model P w) A (do
      storeSet a fs t2
      if (!dm && t2.tooFull) = true then do
        gv (relayAll t2 fs (SetTable.grown fs.size)).2.2
        storeSet a (relayAll t2 fs (SetTable.grown fs.size)).1 (relayAll t2 fs (SetTable.grown fs.size)).2.1
        pure (some true)
      else pure (some true)) R E s := by
  refine wpAny_bind (wpAny_storeSet_of ho hd ?_ (fits_of_scanBound hb1))
  have o1 := store_at (es' := fs) (t' := t2) ho hd
  have sb := Heap.SameBut.update s.heap a (Obj.putSet fs t2)
  split
  · have pm := relayAll_perm t2 fs (SetTable.grown fs.size)
    have f3 := relayAll_fits t2 fs (SetTable.grown fs.size)
    have r3 := relayAll_ris t2 fs (SetTable.grown fs.size)
    have l3 := relayAll_led t2 fs (SetTable.grown fs.size)
    generalize relayAll t2 fs (SetTable.grown fs.size) = Z at pm f3 r3 l3 ⊢
    obtain ⟨gs, t3, gave⟩ := Z
    dsimp only at pm f3 r3 l3 ⊢
    have sz : gs.size = fs.size := by rw [← Array.length_toList, pm.length_eq, Array.length_toList]
    have b2 : gs.size < scanBound := by rw [sz]; exact hb1
    refine wpAny_bind (hg _ _ _ (wpAny_bind (wpAny_storeSet_of o1 rfl ?_ (fits_of_scanBound b2))))
    have o2 := store_at (es' := gs) (t' := t3) o1 rfl
    exact wpAny_pure (hR _ (sb.trans (Heap.SameBut.update _ a _)) ⟨_, gs, _, t3, ⟨o2, hex, rfl⟩, fun e he => g1 e (pm.mem_iff.mp he), (pm.map keyS).trans p1, nd1, ⟨b2, f3⟩, r3, hl.imp id fun z => by rw [l3]; exact z⟩)
  · exact wpAny_pure (hR _ sb ⟨_, fs, _, t2, ⟨o1, hex, rfl⟩, g1, p1, nd1, ⟨hb1, hf2⟩, hr, hl⟩)
/-- one text is put in -/
theorem setS_add {k : Str} {tk : Tok} {Q : Bool → Shared → Prop} (R : SetS w s.heap a L) (room : L.length + 1 < scanBound)
    (hQ : ∀ h' b L', Heap.SameBut a s.heap h' → SetS w h' a L' → L' = (if k ∈ L then L else L ++ [k]) → Q b { s with heap := h' }) : wpAny (model P w) A (setAddHashed a (.str k tk) ((strKind P w).hash k)) Q E s := by
  obtain ⟨o, es, ep, t, ⟨ho, hex, hd⟩, g, pL, nd, ⟨hb, hf⟩, hr, hl⟩ := R
  have key : (strKind P w).is k (.str k tk) = true := PySem.Froz.is_str k tk
  have sc : (Value.str k tk).scannable = true := rfl
  have el : ElemsOf (strKind P w) es.toList := goodS_elems g
  have mem : ∀ j, j ∈ L ↔ ∃ e ∈ es.toList, (strKind P w).is j e.2 = true := fun j => by
    rw [← pL.mem_iff, List.mem_map]
    exact ⟨fun ⟨e, he, q⟩ => ⟨e, he, (goodS_is (g e he) j).2 q⟩, fun ⟨e, he, q⟩ => ⟨e, he, (goodS_is (g e he) j).1 q⟩⟩
  unfold setAddHashed setAddHashedIn
  refine wpAny_holding (wpAny_bind (wpAny_setState_of ho hd hf ?_))
  dsimp only
  rw [byScan_of sc hb el]
  simp only [↓reduceIte]
  unfold setAddByScan
  refine wpAny_bind (wpAny_bind (wpAny_rule (wpAny_bind (wpAny_setScan_of key ho hd hf el ?_))))
  cases hfi : List.findIdx? (fun e => (strKind P w).is k e.2) es.toList with
  | some j =>
    dsimp only
    obtain ⟨hj, pj, _⟩ := List.findIdx?_eq_some_iff_getElem.mp hfi
    have hk : k ∈ L := (mem k).2 ⟨es.toList[j], List.getElem_mem hj, pj⟩
    refine wpAny_pure (wpAny_pure (hQ s.heap _ L (Heap.SameBut.refl a s.heap) ⟨o, es, ep, t, ⟨ho, hex, hd⟩, g, pL, nd, ⟨hb, hf⟩, hr, hl⟩ (by rw [if_pos hk])))
  | none =>
    dsimp only
    have hk : k ∉ L := fun z => by
      obtain ⟨e, he, q⟩ := (mem k).1 z
      have c := List.findIdx?_eq_none_iff.mp hfi e he
      rw [q] at c
      cases c
    have gw : ∀ (b : Bool) {s₁ : Shared} {Q' : Unit → Shared → Prop}, Q' () s₁ → wpAny (model P w) A (match b with
        | true => rule "set.scan.the-table-gave-way"
        | false => pure ()) Q' E s₁ := fun b s₁ Q' q => by cases b <;> first | exact wpAny_pure q | exact wpAny_rule q
    have pm := layNew_perm t es ((strKind P w).hash k) (.str k tk)
    have f1 := layNew_fits t es ((strKind P w).hash k) (.str k tk)
    have r1 := layNew_ris t es ((strKind P w).hash k) (.str k tk) hr
    have l1 := layNew_led t es ((strKind P w).hash k) (.str k tk)
    generalize layNew t es ((strKind P w).hash k) (.str k tk) = Z at pm f1 r1 l1 ⊢
    obtain ⟨fs, t1, wd, gave⟩ := Z
    dsimp only at pm f1 r1 l1 ⊢
    rw [Array.toList_push] at pm
    have g1 : ∀ e ∈ fs.toList, GoodS w e := fun e he => by
      rcases List.mem_append.mp (pm.mem_iff.mp he) with z | z
      · exact g e z
      · rw [List.mem_singleton.mp z]; exact ⟨k, tk, rfl⟩
    have p1 : (fs.toList.map keyS).Perm (L ++ [k]) := by
      have q := pm.map keyS
      rw [List.map_append] at q
      exact q.trans (List.Perm.append_right _ pL)
    have nd1 : (L ++ [k]).Nodup := List.nodup_append.mpr ⟨nd, List.nodup_cons.mpr ⟨by simp, List.nodup_nil⟩, fun x hx y hy => by
      rw [List.mem_singleton.mp hy]
      rintro rfl
      exact hk hx⟩
    have sz : fs.size = L.length + 1 := by
      have q := p1.length_eq
      rw [List.length_map, Array.length_toList, List.length_append] at q
      exact q
    have b1 : fs.size < scanBound := by rw [sz]; exact room
    have led : w.params.followText "set-order" = true ∨ t1.led = true := hl.imp id fun z => by rw [l1]; exact z
    have fin : ∀ h', Heap.SameBut a s.heap h' → SetS w h' a (L ++ [k]) → Q true { s with heap := h' } := fun h' sb r => hQ h' true _ sb r (by rw [if_neg hk])
    refine wpAny_bind (gw _ ?_)
    split
    · refine wpAny_bind ?_
      rw [hashByValue_scannable 8 sc]
      refine wpAny_pure ?_
      refine setS_tail ?_ ho hex hd g1 p1 nd1 b1 ?_ ?_ ?_ ?_
      · intro b s₁ Q' q; cases b <;> first | exact wpAny_pure q | exact wpAny_rule q
      · first | (split <;> first | exact f1 | exact SetTable.fits_plain_off f1) | exact f1
      · first | (split <;> exact r1) | exact r1
      · first | (split <;> exact led) | exact led
      · intro h' sb r; dsimp only; exact wpAny_pure (fin h' sb r)
    · refine wpAny_bind (wpAny_pure ?_)
      simp only [↓reduceIte]
      refine setS_tail ?_ ho hex hd g1 p1 nd1 b1 f1 r1 led ?_
      · intro b s₁ Q' q; cases b <;> first | exact wpAny_pure q | exact wpAny_rule q
      · intro h' sb r; dsimp only; exact wpAny_pure (fin h' sb r)
/-- the texts that are met first -/
def firstS : List Str → List Str → List Str
  | L, [] => L
  | L, k :: r => firstS (if k ∈ L then L else L ++ [k]) r
theorem firstS_snoc (k : Str) : ∀ (ks L : List Str), firstS L (ks ++ [k]) = (if k ∈ firstS L ks then firstS L ks else firstS L ks ++ [k])
  | [], L => rfl
  | j :: ks, L => firstS_snoc k ks _
theorem firstS_len : ∀ (ks L : List Str), (firstS L ks).length ≤ L.length + ks.length
  | [], L => Nat.le_refl _
  | k :: ks, L => by
    refine Nat.le_trans (firstS_len ks _) ?_
    split <;> simp <;> omega
theorem setS_fresh {h : Heap} {a : Addr} (ho : h.get? a = some { cls := .type "set", dict := none, data := .set #[] 0 (.fresh 0 0 (!w.params.followText "set-order")) }) : SetS w h a [] :=
  ⟨_, #[], 0, _, ⟨ho, ⟨rfl, rfl, rfl⟩, rfl⟩, (fun e he => by simp at he), .refl _, .nil, ⟨by decide, rfl⟩, List.Pairwise.nil, by
    show _ ∨ (!w.params.followText "set-order") = true
    cases w.params.followText "set-order"
    · exact .inr rfl
    · exact .inl rfl⟩
/-- the loop of set.update -/
theorem setS_loop {I : Addr} {fp wr : List Addr} {G : Array GenState → Array GenState → Prop} {n : Nat} {Pv : Nat → Value → Prop} {St : Nat → Shared → Prop} {R : Result → Shared → Prop} (W : WalksS P w A.in1 I fp wr G n Pv St) (S : Addr) (hSf : S ∉ fp)
    (ks : List Str) (hn : n = ks.length) (hb : n + 1 < scanBound) (hval : ∀ i v, Pv i v → ∃ k t, ks[i]? = some k ∧ v = .str k t) :
    ∀ (d i : Nat) (s : Shared), n - i = d → i ≤ n → St i s → SetS w s.heap S (firstS [] (ks.take i)) → (∀ s', Moved (S :: wr) G s s' → SetS w s'.heap S (firstS [] ks) → R (.ok (.ret .none)) s') →
      codeAny (model P w) A (.builtin "set.update.loop" ⟨[.ref S, .ref I], []⟩) R s := by
  have hSw : S ∉ wr := fun h => hSf (W.sub _ h)
  have more : ∀ b ∈ wr, b ∈ S :: wr := fun b hb => List.mem_cons_of_mem _ hb
  intro d
  induction d with
  | zero =>
    intro i s hd hi st hS hR
    obtain rfl : i = n := by omega
    refine codeAny_builtin F.entry_set_update_loop ?_
    rw [Around.under_plainId F.plain_set_update_loop _]
    refine wpAny_bind (m := pyNext (.ref I)) (W.done s _ _ st fun s' hm => ?_)
    rw [hn, List.take_length] at hS
    exact wpAny_pure (hR s' (hm.mono more) (hS.keep fun o e => hm.heap S _ hSw e))
  | succ d ih =>
    intro i s hd hi st hS hR
    have lt : i < n := by omega
    refine codeAny_builtin F.entry_set_update_loop ?_
    rw [Around.under_plainId F.plain_set_update_loop _]
    refine wpAny_bind (m := pyNext (.ref I)) (W.item i s _ _ lt st fun v s' hP st' hm => ?_)
    obtain ⟨k, t, hk, rfl⟩ := hval i v hP
    have hS' : SetS w s'.heap S (firstS [] (ks.take i)) := hS.keep fun o e => hm.heap S _ hSw e
    refine wpAny_bind (m := holding [Value.str k t] (setAdd S (.str k t))) (wpAny_holding ?_)
    unfold setAdd
    refine wpAny_holding (wpAny_bind ((strKind P w).pyHash (k := k) (PySem.Froz.is_str k t) ?_))
    have room : (firstS [] (ks.take i)).length + 1 < scanBound := by
      have q := firstS_len (ks.take i) []
      rw [List.length_take] at q
      simp only [List.length_nil] at q
      omega
    refine setS_add (s := { s' with toks := s'.toks + 1 }) hS' room fun h' b L' sb r e => ?_
    have hN : SetS w h' S (firstS [] (ks.take (i + 1))) := by
      rw [L2.take_next hk, firstS_snoc, ← e]
      exact r
    refine wpAny_pure ⟨plainId_quiet F.plain_set_update_loop _, ih (i + 1) _ (by omega) lt (W.frame _ s' _ _ st' (Nat.le_succ _) fun b hb o e => ?_) hN fun s2 m2 r2 => ?_⟩
    · rw [sb.2 b (fun z : b = S => hSf (by rw [← z]; exact hb))]; exact e
    · refine hR s2 (Moved.trans W.gtrans ((hm.mono more).then_heap (Nat.le_succ _) fun b o hb e => ?_) m2) r2
      rw [sb.2 b (fun z : b = S => hb (by rw [z]; exact List.mem_cons_self))]; exact e
/-- a set as it is made -/
abbrev newSet (w : World) : Obj := { cls := .type "set", dict := none, data := .set #[] 0 (.fresh 0 0 (!w.params.followText "set-order")) }
set_option maxHeartbeats 3200000 in
/-- set(xs) -/
theorem setS_call {l : Addr} {its : Array Value} (ks : List Str) {Q : Value → Shared → Prop} (hh : A.handled = none) (hl : s.heap.IsList l its) (hval : ∀ (i : Nat) (v : Value), its[i]? = some v → ∃ k t, ks[i]? = some k ∧ v = .str k t) (hn : its.size = ks.length) (hb : ks.length + 1 < scanBound)
    (h : ∀ (h' : Heap) (tk : Nat), SetS w h' s.heap.objs.size (firstS [] ks) → (∀ b o, s.heap.get? b = some o → h'.get? b = some o) → Q (.ref s.heap.objs.size) { s with heap := h', toks := tk }) :
    wpAny (model P w) A (call (.type "set") [.ref l]) Q E s := by
  obtain ⟨cc, tl, mro⟩ := F.called_set.mro
  have made := F.called_set.made
  have sub := F.called_set.sub
  refine wpAny_call (codeAny_of_tree ?_)
  show wpAny _ _ (callAny (.type "set") _) _ _ _
  refine wpAny_pure ⟨Code.quiet_builtin _ (by decide +kernel), codeAny_builtin F.entry_type_call ?_⟩
  rw [Around.under_plain (weight_type_call_type "set" [.ref l] []) rfl]
  have n1 := F.called_set.notType
  have n2 := F.called_set.canCreate
  have ct := F.typeCall_set_1 (.ref l)
  repeat (any_goals (first | assumption | wp_step))
  refine codeAny_mono (code_set_led1 (.ref l) (E := E) (Q₁ := fun v s₁ => v = .ref s.heap.objs.size ∧ s₁ = { s with heap := s.heap.push (newSet w) }) ⟨rfl, rfl⟩) fun r s₁ hr => ?_
  cases r with
  | error e => exact hr
  | ok fl =>
    cases fl with
    | ret v =>
      obtain ⟨rfl, rfl⟩ := hr
      have hS : (s.heap.push (newSet w)).get? s.heap.objs.size = some (newSet w) := Heap.get?_push_size _ rfl
      have hT : Shared.TypeIs { s with heap := s.heap.push (newSet w) } (.ref s.heap.objs.size) "set" := ⟨_, hS, rfl⟩
      have li := F.called_set.init.lookup
      have lb := F.called_set.init.bind (.ref s.heap.objs.size)
      repeat (any_goals (first | assumption | wp_step))
      refine codeAny_mono (codeAny_call_builtin (R := wants (fun r s₂ => r = .none ∧ ∃ h' tk, s₂ = { s with heap := h', toks := tk } ∧ SetS w h' s.heap.objs.size (firstS [] ks) ∧ ∀ b o, s.heap.get? b = some o → h'.get? b = some o) E)
        F.called_set.init.plain F.entry_set_init (check_set_init_1 hT ?_)) fun r₂ s₂ q₂ => ?_
      · obtain ⟨ol, hol, hcl, nl, hdl⟩ := hl
        obtain ⟨oc, od, oa, os⟩ := ol
        simp only at hcl hdl
        subst hcl; subst hdl
        have ol' : (s.heap.push (newSet w)).get? l = some { cls := .type "list", dict := od, data := .seq its nl, slots := os } := Heap.get?_push_of_some _ hol
        have s1 := F.sub_list_set
        have s2 := F.sub_list_frozenset
        have ne : (Value.type "list" == Value.type "dict") = false := by decide
        have l1 : (s.heap.push (newSet w)).IsList l its := ⟨_, ol', rfl, nl, rfl⟩
        unfold Builtin.«set.__init__» noKeywords Builtin.Frozenset.updateFrom
        generalize hPI : pyIter = PI
        wp_walk
        subst hPI
        refine wpAny_pyIter_list l1 (wpAny_bind (wpAny_runValue ?_))
        have lS : l < s.heap.objs.size := Heap.lt_size hol
        have h3 : A.in1.in1.in1.handled = none := by simp [hh]
        have nI : l ≠ (s.heap.push (newSet w)).objs.size := by rw [Heap.size_push]; exact Nat.ne_of_lt (Nat.lt_succ_of_lt lS)
        have nf : s.heap.objs.size ∉ [(s.heap.push (newSet w)).objs.size, l] := by
          rw [Heap.size_push]
          simp only [List.mem_cons, List.mem_singleton, List.not_mem_nil, or_false, not_or]
          exact ⟨Nat.ne_of_lt (Nat.lt_succ_self _), Nat.ne_of_gt lS⟩
        refine setS_loop ((Walks.list h3 _ l nI its).toS) s.heap.objs.size nf ks hn (by rw [hn]; exact hb) hval (its.size - 0) 0 _ (by omega) (Nat.zero_le _) ⟨⟨_, Heap.get?_push_size _ rfl, rfl, rfl⟩, (l1.push _)⟩ ?hS0 ?hR
        case hS0 => exact setS_fresh (Heap.get?_push_of_some _ hS)
        case hR =>
          intro s' hm hS'
          have keep : ∀ b o, s.heap.get? b = some o → s'.heap.get? b = some o := fun b o e => hm.heap b o (fun z => by
            have lt := Heap.lt_size e
            rcases List.mem_cons.mp z with z | z
            · rw [z] at lt; exact Nat.lt_irrefl _ lt
            · rw [List.mem_singleton.mp z, Heap.size_push] at lt
              exact absurd lt (Nat.not_lt_of_le (Nat.le_succ _))) (Heap.get?_push_of_some _ (Heap.get?_push_of_some _ e))
          obtain ⟨h', g2, d', tk', os'⟩ := s'
          have eg : g2 = s.gens := hm.gens
          have ed : d' = s.drawn := hm.drawn
          have eo : os' = s.os := hm.os
          subst eg; subst ed; subst eo
          show wpAny _ _ _ _ _ _
          refine wpAny_pure ?_
          show wpAny _ _ (ret Value.none) _ _ _
          exact wpAny_pure ⟨rfl, h', tk', rfl, hS', keep⟩
      · cases r₂ with
        | error e => exact q₂
        | ok fl₂ =>
          cases fl₂ with
          | ret r =>
            obtain ⟨rfl, h', tk, rfl, hS', k'⟩ := q₂
            repeat (any_goals (first | assumption | wp_step))
            exact h _ _ hS' k'
          | _ => exact q₂.elim
    | _ => exact hr.elim
end
end Ra


set_option Elab.async false
set_option linter.all false
set_option autoImplicit false
set_option maxRecDepth 100000
/-! sorted(set(e)), the rest -/
namespace Ra
open PySem PySem.Spec PyProof.Rows L2
section
variable {P : Program} {w : World} {A : Around} {E : Value → Shared → Prop} {s : Shared} {a : Addr} {L : List Str}
/-- sorted(a), a set of texts -/
theorem setS_sorted {Q : Value → Shared → Prop} (R : SetS w s.heap a L) (hh : A.handled = none) (hu : A.units + 200 < cLine)
    (hQ : ∀ s' p (out : List Value) (c : Nat), (∀ b o, s.heap.get? b = some o → s'.heap.get? b = some o) → s'.gens = s.gens → s'.os = s.os → s.heap.objs.size ≤ p → s'.heap.get? p = some (seqObj "list" out.toArray c) → out.length = L.length →
      (∃ L' : List Str, L'.Perm L ∧ PySem.W.EachIs (fun u d => ∃ k t, d = PyData.str k ∧ u = Value.str k t) out (isort [] (L'.map PyData.str))) → Q (.ref p) s') :
    wpAny (model P w) A (call (.builtin "sorted") [.ref a]) Q E s := by
  obtain ⟨o, es, ep, t, ⟨ho, hex, hd⟩, g, pL, nd, ⟨hb, hf⟩, hr, hl⟩ := R
  refine Calls.call_function_entry kind_sorted plain_sorted entry_sorted (args_sorted1 _) ?_
  unfold Builtin.«sorted»
  refine wpAny_bind (m := checkCount "sorted" 1 1 _) (wpAny_pure (wpAny_bind (collect_set (A := A.in1) hh ⟨o, ho, hex.1, hd⟩ hf hb hr hl fun s1 vs k1 hz g1 o1 pm => ?_)))
  have hvl : vs.length = L.length := by rw [pm.length_eq, List.length_map, ← pL.length_eq, List.length_map]
  have gv : ∀ v ∈ vs, ∃ k t, v = Value.str k t := fun v hv => by
    obtain ⟨e, he, q⟩ := List.mem_map.mp (pm.mem_iff.mp hv)
    obtain ⟨k, tk, rfl⟩ := g e he
    exact ⟨k, tk, q.symm⟩
  let kv : Value → Str := fun v => keyS (0, v)
  have pk : (vs.map kv).Perm L := by
    have q := pm.map kv
    rw [List.map_map] at q
    exact q.trans pL
  have hlen : L.length ≤ sizeLine := by
    have q := pL.length_eq
    rw [List.length_map, Array.length_toList] at q
    rw [← q]
    exact fits_of_scanBound hb
  have each : ∀ {R' : Value → PyData → Prop} (l : List Value), (∀ v ∈ l, ∃ k t, v = Value.str k t) → (∀ k t, R' (Value.str k t) (.str k)) → PySem.W.EachIs R' l (l.map fun v => PyData.str (kv v)) := by
    intro R' l
    induction l with
    | nil => exact fun _ _ => .nil
    | cons v l ih =>
      intro h1 h2
      obtain ⟨k, t, rfl⟩ := h1 v List.mem_cons_self
      exact .cons (h2 k t) (ih (fun u hu => h1 u (List.mem_cons_of_mem _ hu)) h2)
  refine wpAny_bind (wpAny_newList ?_ (by rw [hvl]; exact hlen))
  have oL : (s1.heap.push (seqObj "list" vs.toArray 0)).get? s1.heap.objs.size = some (seqObj "list" vs.toArray 0) := Heap.get?_push_size _ rfl
  refine wpAny_bind (wpAny_holding (PySem.W.list_sort_data (enc := id) (vs := vs) (bs := vs.map fun v => PyData.str (kv v)) (R := fun u d => ∃ k t, d = PyData.str k ∧ u = Value.str k t) oL (each vs gv fun k t => ⟨k, t, rfl, rfl⟩)
    (each vs gv fun k t => ⟨[], .str _ _, by simp⟩) ?_ ?_ (by rw [List.length_map, hvl]; exact hlen) ?_ fun out hol he => ?_))
  · rw [List.map_id]
    intro d hd d' hd'
    obtain ⟨v, _, rfl⟩ := List.mem_map.mp hd
    obtain ⟨v', _, rfl⟩ := List.mem_map.mp hd'
    simp [PySem.W.alike]
  · rw [List.map_id]
    refine .inr fun d hd => ?_
    obtain ⟨v, _, rfl⟩ := List.mem_map.mp hd
    exact ⟨by simp, by simp⟩
  · intro b hb
    obtain ⟨v, _, rfl⟩ := List.mem_map.mp hb
    show A.in1.units + 1 + (PyData.str (kv v)).depth < cLine
    simp only [PyData.depth]
    show A.units + 1 + 1 + 0 < cLine
    omega
  · rw [← isort_eq] at he
    obtain ⟨c, hc⟩ := sortedHeap_at (vs := vs) (out := out.toArray) oL
    refine wpAny_pure ⟨_, rfl, hQ _ s1.heap.objs.size out c (fun b u e => ?_) g1 o1 hz hc (by rw [hol, List.length_map, hvl]) ⟨vs.map kv, pk, by rw [List.map_map]; exact he⟩⟩
    have q := k1 b u e
    have lt := Heap.lt_size q
    show (sortedHeap (s1.heap.push (seqObj "list" vs.toArray 0)) s1.heap.objs.size vs out.toArray).get? b = some u
    rw [sortedHeap_old (Nat.ne_of_lt lt) (by rw [size_push']; exact Nat.lt_succ_of_lt lt)]
    exact Heap.get?_push_of_some _ q
end
end Ra


set_option Elab.async false
set_option linter.all false
set_option autoImplicit false
set_option maxRecDepth 100000
/-! sorted(set(e)): the rule -/
namespace Ra
open PySem PySem.Spec PyProof.Rows L2
theorem dle_str (x y : Str) : dle (.str x) (.str y) = decide (x.cps.toList ≤ y.cps.toList) := by
  show (!PySem.W.dataLt (.str y) (.str x)) = _
  rw [PySem.W.dataLt_str, PySem.W.not_lt_str]
theorem dle_anti {x y : Str} (h1 : dle (.str x) (.str y) = true) (h2 : dle (.str y) (.str x) = true) : PyData.str x = .str y := by
  rw [dle_str] at h1 h2
  have e := List.le_antisymm (of_decide_eq_true h1) (of_decide_eq_true h2)
  rw [PySem.W.str_of_cps e]
theorem ins_perm (x : PyData) : ∀ l, (ins x l).Perm (x :: l)
  | [] => .refl _
  | y :: l => by
    unfold ins
    split
    · exact .refl _
    · exact ((ins_perm x l).cons y).trans (.swap x y l)
theorem isort_perm : ∀ (l acc : List PyData), (isort acc l).Perm (acc ++ l)
  | [], acc => by simp [isort]
  | x :: l, acc => by
    refine (isort_perm l _).trans ?_
    refine ((ins_perm x acc).append_right l).trans ?_
    exact (List.perm_middle (a := x) (l₁ := acc) (l₂ := l)).symm
theorem sorted_unique : ∀ {l l' : List PyData}, (∀ x ∈ l, ∀ y ∈ l, dle x y = true → dle y x = true → x = y) → l.Pairwise (fun a b => dle a b = true) → l'.Pairwise (fun a b => dle a b = true) → l.Perm l' → l = l'
  | [], l', _, _, _, p => by rw [List.nil_perm.mp p]
  | x :: l, l', ha, h, h', p => by
    cases l' with
    | nil => exact absurd p.length_eq (by simp)
    | cons y l' =>
      obtain ⟨a1, a2⟩ := List.pairwise_cons.mp h
      obtain ⟨b1, b2⟩ := List.pairwise_cons.mp h'
      have hy : y ∈ x :: l := p.mem_iff.mpr List.mem_cons_self
      have hx : x ∈ y :: l' := p.mem_iff.mp List.mem_cons_self
      have e : x = y := by
        rcases List.mem_cons.mp hy with q | q
        · exact q.symm
        · rcases List.mem_cons.mp hx with z | z
          · exact z
          · exact ha x List.mem_cons_self y hy (a1 y q) (b1 x z)
      subst e
      rw [sorted_unique (fun u hu v hv => ha u (List.mem_cons_of_mem _ hu) v (List.mem_cons_of_mem _ hv)) a2 b2 (List.perm_cons x |>.mp p)]
theorem isort_strs {L L' : List Str} (p : L'.Perm L) : isort [] (L'.map PyData.str) = isort [] (L.map PyData.str) := by
  refine sorted_unique (fun x hx y hy => ?_) (isort_sorted _ _ .nil) (isort_sorted _ _ .nil) ((isort_perm _ []).trans ((p.map _).trans (isort_perm _ []).symm))
  have hx := (isort_perm _ _).mem_iff.mp hx
  have hy := (isort_perm _ _).mem_iff.mp hy
  obtain ⟨a, _, rfl⟩ := List.mem_map.mp hx
  obtain ⟨b, _, rfl⟩ := List.mem_map.mp hy
  exact dle_anti
theorem eqv_str (x y : Str) : PyData.eqv (.str x) (.str y) = (x == y) := by simp [PyData.eqv]
theorem dedup_strs : ∀ (ks L : List Str), dedup (L.reverse.map PyData.str) (ks.map PyData.str) = (firstS L ks).map PyData.str
  | [], L => by simp [dedup, firstS]
  | k :: ks, L => by
    show dedup (L.reverse.map PyData.str) (.str k :: ks.map PyData.str) = _
    unfold dedup firstS
    have e : (List.map PyData.str L.reverse).any (fun y => PyData.eqv y (.str k)) = decide (k ∈ L) := by
      rw [List.any_map, Bool.eq_iff_iff, List.any_eq_true, decide_eq_true_eq]
      constructor
      · rintro ⟨x, hx, h⟩
        have : x = k := by simpa [eqv_str] using h
        rw [← this]
        exact List.mem_reverse.mp hx
      · intro h
        exact ⟨k, List.mem_reverse.mpr h, by simp [eqv_str]⟩
    rw [e]
    by_cases h : k ∈ L
    · simp only [h, decide_true, if_true]
      exact dedup_strs ks L
    · simp only [h, decide_false, Bool.false_eq_true, if_false]
      have := dedup_strs ks (L ++ [k])
      rw [List.reverse_append] at this
      exact this
theorem allStr_ok : ∀ {xs : List PyData}, allStr xs = true → ∃ ks : List Str, xs = ks.map PyData.str
  | [], _ => ⟨[], rfl⟩
  | .str k :: r, h => by
    obtain ⟨ks, rfl⟩ := allStr_ok (xs := r) h
    exact ⟨k :: ks, rfl⟩
  | .none :: _, h => by cases h
  | .bool _ :: _, h => by cases h
  | .int _ :: _, h => by cases h
  | .list _ :: _, h => by cases h
  | .tuple _ :: _, h => by cases h
  | .dict _ :: _, h => by cases h
def SetSO (w : World) (a : Addr) (L : List Str) : HO := .ext fun h => SetS w h a L
theorem setSO_new {P : Program} {w : World} {H : Hp} {h : Heap} {a : Addr} {L : List Str} (R : SetS w h a L) : ObjOk P w H h a (SetSO w a L) := by
  have ⟨o, _, _, _, ⟨ho, _⟩, _⟩ := R
  exact ⟨R, ⟨o, ho⟩, fun h1 h2 p k => SetS.keep p k⟩
def rSet1 (w : World) : List V → Hp → VK → Prop := fun xs H Q => ∃ (a : Addr) (ks : List Str), xs = [.ref a] ∧ Rd H a (.lst (ks.map V.str)) ∧ ks.length + 1 < scanBound ∧ ∀ p, H p = none → Q (.ref p) (upd H p (SetSO w p (firstS [] ks)))
def rSet2 (w : World) : List V → Hp → VK → Prop := fun xs H Q => ∃ (a : Addr) (L : List Str), xs = [.ref a] ∧ H a = some (SetSO w a L) ∧ ∀ p (M : List Str), M.map PyData.str = isort [] (L.map PyData.str) → H p = none → Q (.ref p) (upd H p (.lst (M.map V.str)))
section
variable {X : Cx} {e : Expr} {p : P} {pos : Pos}
theorem vals_strs : ∀ {ks : List Str} {us : List Value}, Vals (ks.map V.str) us → (us.length = ks.length) ∧ ∀ (i : Nat) (v : Value), us[i]? = some v → ∃ k t, ks[i]? = some k ∧ v = .str k t
  | [], _, .nil => ⟨rfl, fun i v h => by simp at h⟩
  | k :: ks, _, .cons ⟨t, e⟩ r => by
    obtain ⟨h1, h2⟩ := vals_strs r
    refine ⟨by simp [h1], fun i v h => ?_⟩
    cases i with
    | zero =>
      simp at h
      exact ⟨k, t, rfl, by rw [← h]; exact e⟩
    | succ i => exact h2 i v (by simpa using h)
theorem cr_set1 (hc : X.calm = true) : CallR X (.type "set") (rSet1 X.w) := by
  intro pins s σ H xs us Q I r h
  obtain ⟨l, ks, rfl, hl, hb, q⟩ := h
  rw [Vals.ref1 r]
  obtain ⟨its, rv, pl, hz⟩ := I.list (.inl hl)
  obtain ⟨v1, v2⟩ := vals_strs rv
  refine setS_call (P := X.prog) (w := X.w) ks (I.ok.hd hc) pl.isList (fun i v h => v2 i v (by simpa using h)) (by simpa using v1) hb fun h' tk R k => ?_
  exact ⟨.ref s.heap.objs.size, upd H s.heap.objs.size (SetSO X.w s.heap.objs.size (firstS [] ks)), I.laid (t' := tk) k (Nat.le_refl _) (setSO_new R), rfl, q _ (I.hok.fresh (Nat.le_refl _))⟩
theorem each_strs : ∀ {out : List Value} {ds : List PyData}, PySem.W.EachIs (fun u d => ∃ k t, d = PyData.str k ∧ u = Value.str k t) out ds → ∃ M : List Str, M.map PyData.str = ds ∧ Vals (M.map V.str) out
  | _, _, .nil => ⟨[], rfl, .nil⟩
  | _, _, .cons ⟨k, t, e1, e2⟩ r => by
    obtain ⟨M, h1, h2⟩ := each_strs r
    exact ⟨k :: M, by rw [List.map_cons, h1, e1], .cons ⟨t, e2⟩ h2⟩
theorem cr_set2 (hc : X.calm = true) (hu : X.A.units + 200 < cLine) : CallR X (.builtin "sorted") (rSet2 X.w) := by
  intro pins s σ H xs us Q I r h
  obtain ⟨a, L, rfl, ha, q⟩ := h
  have R : SetS X.w s.heap a L := (I.hok a _ ha).1
  rw [Vals.ref1 r]
  refine setS_sorted R (I.ok.hd hc) hu fun s' p out c k g o hp hg hlen ⟨L', pm, he⟩ => ?_
  obtain ⟨M, m1, m2⟩ := each_strs he
  rw [isort_strs pm] at m1
  have hz : (M.map V.str).length ≤ sizeLine := by
    rw [m2.length, hlen]
    obtain ⟨_, es, _, _, _, _, pL, _, ⟨hb, _⟩, _⟩ := R
    have q := pL.length_eq
    rw [List.length_map, Array.length_toList] at q
    rw [← q]
    exact fits_of_scanBound hb
  have hn : H p = none := I.hok.fresh hp
  have J : Inv X pins σ (upd H p (.lst (M.map V.str))) { s with heap := s'.heap, gens := s'.gens, drawn := s'.drawn, toks := s'.toks } :=
    I.call (ch := []) (Un.laid k hp hn) (I.hok.laid k hp ⟨hz, out, c, m2, hg⟩) (by rw [g]; exact I.bare) (fun _ z => nomatch z)
  have e : s' = { s with heap := s'.heap, gens := s'.gens, drawn := s'.drawn, toks := s'.toks } := by
    cases s'
    cases s
    cases o
    rfl
  rw [e]
  exact ⟨.ref p, _, J, rfl, q p M m1 hn⟩
theorem rp_strs {K : PySem.W.Frag} {F : Addr → Prop} {H : Hp} : ∀ {ks : List Str} {ws : List V}, RpAll K F H ws (ks.map PyData.str) → ws = ks.map V.str ∧ ∀ k ∈ ks, sOk k = true
  | [], _, .nil => ⟨rfl, by simp⟩
  | k :: ks, _, .cons r t => by
    obtain ⟨h1, h2⟩ := rp_strs t
    cases r with
    | str _ h => exact ⟨by rw [h1]; rfl, fun j hj => (List.mem_cons.mp hj).elim (fun e => e ▸ h) (h2 j)⟩
theorem strs_rp {K : PySem.W.Frag} {F : Addr → Prop} {H : Hp} : ∀ {ks : List Str}, (∀ k ∈ ks, sOk k = true) → RpAll K F H (ks.map V.str) (ks.map PyData.str)
  | [], _ => .nil
  | k :: ks, h => .cons (.str k (h k List.mem_cons_self)) (strs_rp fun j hj => h j (List.mem_cons_of_mem _ hj))
theorem firstS_sub {x : Str} : ∀ {ks L : List Str}, x ∈ firstS L ks → x ∈ L ∨ x ∈ ks
  | [], _, h => .inl h
  | k :: ks, L, h => by
    rcases firstS_sub (ks := ks) h with q | q
    · split at q
      · exact .inl q
      · rcases List.mem_append.mp q with q | q
        · exact .inl q
        · exact .inr (by rw [List.mem_singleton.mp q]; exact List.mem_cons_self)
    · exact .inr (List.mem_cons_of_mem _ q)
theorem pe_setR {x y : Str} {q q2 q3 : Pos} (hx : x = "sorted") (hg : Gl X x) (hm : X.mg x = none) (ok : okName x = true) (hy : y = "set") (hg2 : Gl X y) (hm2 : X.mg y = none) (ok2 : okName y = true) (hc : X.calm = true) (hu : X.A.units + 200 < cLine)
    (ha : PE X e (tE X.K p.v)) (ns : notStar e = true) : PE X (.Call (.Name x q) [.Call (.Name y q2) [e] [] q3] [] pos) (tE X.K (cBi .sortedset [p])) := by
  subst hx; subst hy
  have b1 : bootBuiltins "sorted" = some (.builtin "sorted") := by decide +kernel
  have b2 : bootBuiltins "set" = some (.type "set") := by decide +kernel
  have inner := pe_callTy (r := rSet1 X.w) (p := q2) (pos := q3) (cr_set1 hc) hg2 hm2 b2 (pa_cons ha pa_nil (star1 ns _ _)) (by decide) (by decide) (star1 ns _ _) (star_plain _ _ _ rfl)
  have outer := pe_callB (r := rSet2 X.w) (p := q) (pos := pos) (cr_set2 hc hu) hg hm b1 (pa_cons inner pa_nil (star1 rfl _ _)) (by decide) (by decide) (star1 rfl _ _) (star_plain _ _ _ rfl)
  refine PE.weak outer fun σ H Q h => ?_
  obtain ⟨env, m, g, hs, hm', hz⟩ := h
  refine ⟨env, m, g, hs, hm', (Rz.bind (show Rz X.K (((p.v env m).bind fun v m1 => (cArgs [] env m1).bind fun vs m2 => .ok (v.nf :: vs) m2).bind _) g H _ from hz) |> Rz.bind).mono fun v m1 g1 H1 e1 s1 z1 z rv => ?_⟩
  show rSet1 X.w [z] H1 fun x H2 => rSet2 X.w [x] H2 Q
  obtain ⟨g2, s2, e2, r2⟩ := s1.hold rv
  have z2 := Rz.ok_now (show Rz X.K (.ok [v.nf] m1) g2 H1 _ from Rz.ext e2 z1) s2
  obtain ⟨ds, hd, z3⟩ := Rz.optBind z2
  have rr := look_ok s2 (.cons r2 (nf_ne v) .nil) hd
  obtain ⟨out, ho, z4⟩ := Rz.opt z3
  replace ho : sortedsetD ds = some out := ho
  unfold sortedsetD at ho
  split at ho
  · rename_i xs
    split at ho
    · rename_i hcs
      obtain ⟨ks, rfl⟩ := allStr_ok hcs.1
      obtain ⟨z', ez, hr⟩ := rr.one
      cases ez
      obtain ⟨a, ws, rfl, h1, h2⟩ := hr.lst
      obtain ⟨rfl, hok⟩ := rp_strs h2
      have hlt : ks.length < 4000 := by simpa using hcs.2
      have hb : ks.length + 1 < scanBound := by
        show ks.length + 1 < 4096
        omega
      refine ⟨a, ks, rfl, h1, hb, fun p hp => ⟨p, firstS [] ks, rfl, upd_same .., fun p2 M hM hp2 => ?_⟩⟩
      have s3 := sim_new (o := SetSO X.w p (firstS [] ks)) s2 hp trivial
      have e3 := ext_new (o := SetSO X.w p (firstS [] ks)) s2 hp
      obtain ⟨ys, hy, e⟩ := Option.map_eq_some_iff.mp ho
      subst e
      have hys : ys = M.map PyData.str := by
        unfold sortD at hy
        split at hy
        · have q := dedup_strs ks []
          simp only [List.reverse_nil, List.map_nil] at q
          rw [hM, ← q]
          exact (Option.some.inj hy).symm
        · cases hy
      subst hys
      have hMo : ∀ k ∈ M, sOk k = true := fun k hk => by
        have q : PyData.str k ∈ isort [] ((firstS [] ks).map PyData.str) := by rw [← hM]; exact List.mem_map_of_mem hk
        obtain ⟨j, hj, ej⟩ := List.mem_map.mp ((isort_perm _ []).mem_iff.mp q)
        cases ej
        rcases firstS_sub hj with q | q
        · cases q
        · exact hok _ q
      have hlen : (M.map V.str).length ≤ sizeLine := by
        have q := congrArg List.length hM
        rw [List.length_map, isort_length, List.length_map, List.length_nil] at q
        have q2 := firstS_len ks []
        rw [List.length_nil] at q2
        rw [List.length_map, sizeLine_eq]
        omega
      exact ans_l s3 (Rz.ext e3 z4) (strs_rp hMo) hlen hp2
    · cases ho
  · cases ho
end
end Ra


set_option Elab.async false
set_option linter.all false
set_option autoImplicit false
set_option maxRecDepth 100000
/-! what is checked is sound -/
namespace Ra
open PySem PySem.Spec PyProof.Rows L2
structure FnGood (X : Cx) (call : Call) (i : Nat) (x : Str) (ps : List Str) : Prop where
  at_ : ∃ (f : Addr) (fd : FuncData) (k : Nat), X.mg x = some (.ref f) ∧ PySem.W.keepIn X.K (.ref f) = true ∧ Binds X.K fd ps [] ∧ (∀ (s : Shared) (ws : List Value), ws.length = ps.length → BindsTo s fd ⟨[], ps.zip ws⟩ (ps.zip ws)) ∧
    FnOk X.prog X.w X.K X.mg X.base CX0 k f fd ps (spOf X.K ps.length (call i)) ∧ Room k X.A
structure Goo (C : Cs) (call : Call) (sc : Scope) (fb : Str → Bool) (X : Cx) : Prop where
  hsc : X.env.scope = sc
  kind : sc.kind = .function
  N : X.N = C.N
  nd : C.N.Nodup
  calm : X.calm = true
  xe : X.xe = fun _ _ => False
  fn : X.fn = fb
  free : ∀ x ∈ C.free, X.mg x = none
  glo : ∀ x d, C.glo.lookup x = some d → ∃ u v, X.mg x = some u ∧ RelV v u ∧ flatD d = some v
  fns : ∀ i x ps, C.fns[i]? = some (x, ps) → FnGood X call i x ps
  units : X.A.units + 200 < cLine
section
variable {C : Cs} {call : Call} {sc : Scope} {fb : Str → Bool} {X : Cx}
theorem vis_ok (G : Goo C call sc fb X) {x : Str} (h : visB sc x = true) : Vis X.env.scope x := by
  unfold visB at h
  rw [G.hsc]
  unfold Vis
  split at h
  · rename_i e; exact .inl e
  · rename_i e; exact .inr (.inl e)
  · rename_i e; exact .inr (.inr e)
  · cases h
theorem loc_ok (G : Goo C call sc fb X) {x : Str} (h : locB sc x = true) : Loc X.env.scope x := by
  unfold locB at h
  rw [G.hsc]
  unfold L2.Loc
  split at h
  · rename_i e; exact .inl e
  · rename_i e; exact .inr e
  · cases h
theorem lcl_ok (G : Goo C call sc fb X) {x : Str} (h : lclB sc x = true) : X.env.scope.names.lookup x = some .local := by
  unfold lclB at h
  rw [G.hsc]
  split at h
  · rename_i e; exact e
  · cases h
theorem gl_ok (G : Goo C call sc fb X) {x : Str} (h : gloB sc x = true) : Gl X x := by
  unfold gloB at h
  show X.env.scope.names.lookup x = _
  rw [G.hsc]
  split at h
  · rename_i e; exact e
  · cases h
theorem blt_ok (G : Goo C call sc fb X) {x : Str} (h : bltB C sc x = true) : Gl X x ∧ X.mg x = none ∧ okName x = true := by
  unfold bltB at h
  simp only [Bool.and_eq_true, decide_eq_true_eq] at h
  exact ⟨gl_ok G h.1.2, G.free x h.1.1, h.2⟩
/-- the block of a comprehension -/
theorem Goo.blk (G : Goo C call sc fb X) {scope : Scope} (hk : scope.kind = .function) (s : Shared) (H : Hp) (a : Addr) (cl : List (Str × Addr)) (fp : List Addr) : Goo C call (relS scope sc) (cellB scope) (X.blk s H scope (compEnvC scope cl a X.env) fp) where
  hsc := by
    show relS scope X.env.scope = _
    rw [G.hsc]
  kind := hk
  N := G.N
  nd := G.nd
  calm := G.calm
  xe := rfl
  fn := rfl
  free := G.free
  glo := G.glo
  fns := fun i x ps h => by
    obtain ⟨f, fd, k, h1, h2, h3, h4, h5, h6⟩ := (G.fns i x ps h).at_
    exact ⟨f, fd, k, h1, h2, h3, h4, h5, h6⟩
  units := G.units
mutual
theorem soundT (G : Goo C call sc fb X) : ∀ (t : Tg) (e : Expr), chkT C.N sc fb t e = true → PG X e (gT X.K t)
  | .nm i, e, h => by
    cases e with
    | Name x q =>
      simp only [chkT, Bool.and_eq_true, decide_eq_true_eq] at h
      obtain ⟨⟨h1, h2⟩, h3⟩ := h
      refine pg_nameR (by rw [G.N]; exact G.nd) (by rw [G.N]; exact h1) (loc_ok G h2) ?_
      rcases Bool.or_eq_true_iff.mp h3 with h3 | h3
      · exact .inl (by rw [G.fn]; exact h3)
      · exact .inr (lcl_ok G h3)
    | _ => simp [chkT] at h
  | .tp ts, e, h => by
    cases e with
    | Tuple es k q =>
      simp only [chkT] at h
      obtain ⟨h1, h2, h3⟩ := soundTs G ts es h
      exact pg_tupR G.calm h1 h2 h3
    | _ => simp [chkT] at h
theorem soundTs (G : Goo C call sc fb X) : ∀ (ts : List Tg) (es : List Expr), chkTs C.N sc fb ts es = true → PGs X es (gTs X.K ts) ∧ es.all notStar = true ∧ es.length = ts.length
  | [], [], _ => ⟨pgs_nilR, rfl, rfl⟩
  | [], _ :: _, h => by simp [chkTs] at h
  | _ :: _, [], h => by simp [chkTs] at h
  | t :: ts, e :: es, h => by
    simp only [chkTs, Bool.and_eq_true] at h
    obtain ⟨⟨h1, h2⟩, h3⟩ := h
    obtain ⟨a, b, c⟩ := soundTs G ts es h3
    exact ⟨pgs_consR (soundT G t e h2) a h1, by simp [h1, b], by simp [c]⟩
end
/-- the parts of a list -/
inductive AllP (X : Cx) : List Expr → List P → Prop
  | nil : AllP X [] []
  | cons {e : Expr} {es : List Expr} {p : P} {ps : List P} : PE X e (tE X.K p.v) → PT X e (tT X.K p.t) → notStar e = true → AllP X es ps → AllP X (e :: es) (p :: ps)
theorem AllP.items : ∀ {es : List Expr} {ps : List P}, AllP X es ps → PA X es (tIt X.K (cItems ps))
  | _, _, .nil => pa_items_nil
  | _, _, .cons a _ c d => pa_items_cons a d.items c
theorem AllP.args : ∀ {es : List Expr} {ps : List P}, AllP X es ps → PA X es (tAr X.K (cArgs ps))
  | _, _, .nil => pa_args_nil
  | _, _, .cons a _ c d => pa_args_cons a d.args c
theorem AllP.stars : ∀ {es : List Expr} {ps : List P}, AllP X es ps → es.all notStar = true
  | _, _, .nil => rfl
  | _, _, .cons _ _ c d => by simp [c, d.stars]
theorem AllP.len : ∀ {es : List Expr} {ps : List P}, AllP X es ps → es.length = ps.length
  | _, _, .nil => rfl
  | _, _, .cons _ _ c d => by simp [d.len]
theorem AllP.and {pos : Pos} : ∀ {es : List Expr} {ps : List P}, AllP X es ps → es ≠ [] → PE X (.BoolOp .And es pos) (tE X.K (cAnd ps)) ∧ PW X (.BoolOp .And es pos) (tT X.K (tAnd ps))
  | _, _, .nil, h => absurd rfl h
  | _, _, .cons a b _ .nil, _ => ⟨pe_andR1 a, pw_andR1 b⟩
  | _, _, .cons a b _ (.cons a' b' c' d'), _ => by
    obtain ⟨h1, h2⟩ := AllP.and (pos := pos) (.cons a' b' c' d') (by simp)
    exact ⟨pe_andR a h1, pw_andR b h2⟩
theorem AllP.or {pos : Pos} : ∀ {es : List Expr} {ps : List P}, AllP X es ps → es ≠ [] → PE X (.BoolOp .Or es pos) (tE X.K (cOr ps)) ∧ PW X (.BoolOp .Or es pos) (tT X.K (tOr ps))
  | _, _, .nil, h => absurd rfl h
  | _, _, .cons a b _ .nil, _ => ⟨pe_orR1 a, pw_orR1 b⟩
  | _, _, .cons a b _ (.cons a' b' c' d'), _ => by
    obtain ⟨h1, h2⟩ := AllP.or (pos := pos) (.cons a' b' c' d') (by simp)
    exact ⟨pe_orR a h1, pw_orR b h2⟩
theorem AllP.kw : ∀ {kws : List Keyword} {ps : List P}, AllP X (kwE kws) ps → PK X kws (tAr X.K (cArgs ps))
  | [], _, .nil => ⟨fun pos pins s σ H Q I ⟨env, m, g, hs, hm, hz⟩ => pk_nil.run pos pins s σ H Q I (Rz.ok_now hz hm [] .nil)⟩
  | ⟨n, e, kp⟩ :: r, _, .cons (p := p) (ps := ps) a _ c d => by
    refine ⟨fun pos pins s σ H Q I ⟨env, m, g, hs, hm, hz⟩ => (pk_cons a (AllP.kw d)).run pos pins s σ H Q I ?_⟩
    refine ⟨env, m, g, hs, hm, (Rz.bind hz).mono fun v m1 g1 H1 e1 s1 z1 x rx => ?_⟩
    obtain ⟨g2, s2, e2, r2⟩ := s1.hold rx
    refine ⟨env, m1, g2, (hs.ext e1).ext e2, s2, (Rz.bind (z1.ext e2)).mono fun vs m3 g3 H3 e3 s3 z3 xs rxs => ?_⟩
    exact Rz.ok_now z3 s3 (x :: xs) (.cons (r2.ext e3 (nf_ne v)) (nf_ne v) rxs)
/-- as a plain value and test -/
theorem both {e : Expr} {v : EV} (h : PE X e (tE X.K v)) (he : ∀ whole, isTrue e X.env whole = (do let v ← whole; standAt e.pos; holding [v] (truthy v))) : PE X e (tE X.K (ofV v).v) ∧ PT X e (tT X.K (ofV v).t) :=
  ⟨h, pt_R (p := ofV v) h he rfl⟩
theorem op_of (o : Bop) {op : Operator} (h : bopB o op = true) : OpR X (binaryOp op) (rOp X.K fun x y m => optR (bop o x y) m) := by
  cases o with
  | add => cases op <;> first | (exact absurd h (by decide)) | exact or_add
  | sub => cases op <;> first | (exact absurd h (by decide)) | exact or_sub
  | mul => cases op <;> first | (exact absurd h (by decide)) | exact or_mul
  | fdiv => cases op <;> first | (exact absurd h (by decide)) | exact or_fdiv
  | mod => cases op <;> first | (exact absurd h (by decide)) | exact or_mod
  | pow => cases op <;> first | (exact absurd h (by decide)) | exact or_pow
theorem cmp_of (hu : X.A.units + 200 < cLine) (o : Cop) {op : CmpOp} (h : copB o op = true) : OpR X (compareOp op) (rOp X.K (cmpR o)) := by
  cases o with
  | eq => cases op <;> first | (exact absurd h (by decide)) | exact or_eq hu
  | ne => cases op <;> first | (exact absurd h (by decide)) | exact or_ne hu
  | lt => cases op <;> first | (exact absurd h (by decide)) | exact or_lt hu
  | le => cases op <;> first | (exact absurd h (by decide)) | exact or_le
  | gt => cases op <;> first | (exact absurd h (by decide)) | exact or_gt
  | ge => cases op <;> first | (exact absurd h (by decide)) | exact or_ge
  | isin => cases op <;> first | (exact absurd h (by decide)) | exact or_in hu
  | notin => cases op <;> first | (exact absurd h (by decide)) | exact or_notin hu
end
end Ra


set_option Elab.async false
set_option linter.all false
set_option autoImplicit false
set_option maxRecDepth 100000
/-! expressions that are checked are sound -/
namespace Ra
open PySem PySem.Spec PyProof.Rows L2
abbrev Bo (X : Cx) (e : Expr) (p : P) : Prop := PE X e (tE X.K p.v) ∧ PT X e (tT X.K p.t)
abbrev SE (C : Cs) (call : Call) (f : Ck) (p : P) : Prop := ∀ (e : Expr) (sc : Scope) (fb : Str → Bool) (X : Cx), Goo C call sc fb X → f sc fb e = true → Bo X e p
abbrev SL (C : Cs) (call : Call) (f : CkL) (ps : List P) : Prop := ∀ (es : List Expr) (sc : Scope) (fb : Str → Bool) (X : Cx), Goo C call sc fb X → f sc fb es = true → AllP X es ps
section
variable {C : Cs} {call : Call}
theorem s_var (i : Nat) : SE C call (kVar C i) (ofV fun env m => optR (getV env i) m) := by
  intro e sc fb X G h
  unfold kVar at h
  split at h
  · simp only [Bool.and_eq_true, decide_eq_true_eq] at h
    obtain ⟨o1, o2, o3⟩ := okName_ok h.2
    exact both (pe_varR (by rw [G.N]; exact h.1.1) (vis_ok G h.1.2) o1 o2) fun _ => rfl
  · cases h
theorem s_cst (c : PyData) : SE C call (kCst c) (ofV fun _ m => .ok (.d c) m) := by
  intro e sc fb X G h
  unfold kCst at h
  split at h
  · rename_i k _ _
    unfold cstB at h
    split at h
    · exact both (cst_ok (fun _ _ => .non) pe_non) fun _ => rfl
    · have h' := eq_of_beq h
      subst h'
      exact both (cst_ok (fun _ _ => .bl _) pe_bl) fun _ => rfl
    · have h' := of_decide_eq_true h
      subst h'
      exact both (cst_ok (fun _ _ => .int _) pe_int) fun _ => rfl
    · obtain ⟨h1, h2⟩ := Bool.and_eq_true_iff.mp h
      have h' := of_decide_eq_true h1
      subst h'
      exact both (cst_ok (fun _ _ => .str _ h2) pe_str) fun _ => rfl
    · cases h
  · cases h
theorem s_glo (c : PyData) : SE C call (kGlo C c) (ofV fun _ m => .ok (.d c) m) := by
  intro e sc fb X G h
  unfold kGlo at h
  split at h
  · rename_i x q
    simp only [Bool.and_eq_true] at h
    obtain ⟨⟨h1, h2⟩, h3⟩ := h
    obtain ⟨o1, o2, o3⟩ := okName_ok h2
    split at h3
    · rename_i d hd
      obtain ⟨h4, h5⟩ := Bool.and_eq_true_iff.mp h3
      have hdc := beq_ok _ _ h4
      subst hdc
      obtain ⟨u, v, k1, k2, k3⟩ := G.glo x d hd
      exact both (cst_ok (fun F H => flat_rp k3 F H) (pe_glob (gl_ok G h1) k1 k2 o1)) fun _ => rfl
    · cases h3
  · cases h
theorem s_tup {f : CkL} {ps : List P} {n : Nat} (hf : SL C call f ps) (hn : ps.length = n) : SE C call (kTup n f) (ofV (cTup ps)) := by
  intro e sc fb X G h
  unfold kTup at h
  split at h
  · obtain ⟨h1, h2⟩ := Bool.and_eq_true_iff.mp h
    exact both (pe_tupR (hf _ sc fb X G h1).items (by rw [hn]; exact of_decide_eq_true h2)) fun _ => rfl
  · cases h
theorem s_lst {f : CkL} {ps : List P} {n : Nat} (hf : SL C call f ps) (hn : ps.length = n) : SE C call (kLst n f) (ofV (cLst ps)) := by
  intro e sc fb X G h
  unfold kLst at h
  split at h
  · obtain ⟨h1, h2⟩ := Bool.and_eq_true_iff.mp h
    exact both (pe_lstR (hf _ sc fb X G h1).items (by rw [hn]; exact of_decide_eq_true h2)) fun _ => rfl
  · cases h
theorem fn_ok {X : Cx} {sc : Scope} {fb : Str → Bool} (G : Goo C call sc fb X) {x : Str} {g n : Nat} (h : fnB C x g n = true) : ∃ ps, ps.length = n ∧ FnGood X call g x ps := by
  unfold fnB at h
  split at h
  · rename_i y ps hy
    simp only [Bool.and_eq_true, decide_eq_true_eq] at h
    obtain ⟨rfl, h2⟩ := h
    exact ⟨ps, h2, G.fns g x ps hy⟩
  · cases h
theorem call_pe {X : Cx} {sc : Scope} {fb : Str → Bool} (G : Goo C call sc fb X) {x : Str} {g : Nat} {xs : List Expr} {ps : List P} {q pos : Pos} (ha : AllP X xs ps) (hg : gloB sc x = true) (ok : okName x = true) (hf : fnB C x g ps.length = true) :
    ∃ E, PE X (.Call (.Name x q) xs [] pos) (tCall (spOf X.K ps.length (call g)) [] E (tAr X.K (cArgs ps))) := by
  obtain ⟨pn, hpn, f, fd, k, h1, h2, h3, _, h5, h6⟩ := fn_ok G hf
  obtain ⟨o1, o2, o3⟩ := okName_ok ok
  rw [hpn] at h5
  cases ha with
  | nil =>
    refine ⟨E0, PE.weak (pe_call0 (dvs := []) (E := E0) h5 h6 (gl_ok G hg) h1 h2 h3 .nil pass0 o1) fun σ H Q h => ?_⟩
    obtain ⟨env, m, g, hs, hm, hz⟩ := h
    exact Rz.ok_now hz hm [] .nil
  | cons a b c d => exact ⟨E0, pe_call (dvs := []) (E := E0) h5 h6 (gl_ok G hg) h1 h2 h3 .nil pass0 (AllP.cons a b c d).args o1 (star1 c _ _) (star_plain _ _ _ d.stars)⟩
theorem s_call {f : CkL} {ps : List P} {g n : Nat} (hf : SL C call f ps) (hn : ps.length = n) : SE C call (kCall C g n f) (ofV (cCall call g ps)) := by
  intro e sc fb X G h
  unfold kCall at h
  split at h
  · simp only [Bool.and_eq_true] at h
    obtain ⟨⟨⟨h1, h2⟩, h3⟩, h4⟩ := h
    obtain ⟨E, hE⟩ := call_pe G (hf _ sc fb X G h1) h2 h3 (by rw [hn]; exact h4)
    exact both (PE.weak hE fun _ _ _ q => call_ok q) fun _ => rfl
  · cases h
theorem s_callc {f : CkL} {ps : List P} {g n : Nat} (hf : SL C call f ps) (hn : ps.length = n) : SE C call (kCall C g n f) (ofV (cCallC call g ps)) := by
  intro e sc fb X G h
  unfold kCall at h
  split at h
  · simp only [Bool.and_eq_true] at h
    obtain ⟨⟨⟨h1, h2⟩, h3⟩, h4⟩ := h
    obtain ⟨E, hE⟩ := call_pe G (hf _ sc fb X G h1) h2 h3 (by rw [hn]; exact h4)
    exact both (PE.weak hE fun _ _ _ q => callc_ok q) fun _ => rfl
  · cases h
theorem kw_names {X : Cx} {pos : Pos} : ∀ (kws : List Keyword) {ps : List Str}, ps.map some = kwN kws → (backToKw pos (keywordEach kws X.env)).all (·.1.isSome) = true ∧ (backToKw pos (keywordEach kws X.env)).filterMap (·.1) = ps ∧ (backToKw pos (keywordEach kws X.env)).any (·.1.isNone) = false
  | [], [], _ => ⟨rfl, rfl, rfl⟩
  | [], _ :: _, h => by cases h
  | ⟨n, e, q⟩ :: r, [], h => by cases h
  | ⟨n, e, q⟩ :: r, p :: ps, h => by
    simp only [List.map_cons, kwN, List.cons.injEq] at h
    obtain ⟨rfl, h2⟩ := h
    obtain ⟨a, b, c⟩ := kw_names (X := X) (pos := pos) r h2
    simp only [keywordEach, backToKw, List.map_cons, List.all_cons, List.any_cons, List.filterMap_cons] at a b c ⊢
    exact ⟨by simpa using a, congrArg (List.cons p) b, by simpa using c⟩
/-- a def called by its parameters' names -/
theorem run_kw {X : Cx} {k : Nat} {f : Addr} {fd : FuncData} {ps : List Str} {sp : Sp} {pins : List (Addr × Obj)} {σ : L2.St} {H : Hp} {s : Shared} {Q : VK} {ws : List Value} {zs : List V} (F : FnOk X.prog X.w X.K X.mg X.base CX0 k f fd ps sp) (hr : Room k X.A)
    (hb : ∀ (s : Shared) (ws : List Value), ws.length = ps.length → BindsTo s fd ⟨[], ps.zip ws⟩ (ps.zip ws)) (I : Inv X pins σ H s) (rz : Vals zs ws) (hl : zs.length = ps.length) (h : sp zs H Q E0) : wpAny (model X.prog X.w) X.A (PySem.call (.ref f) [] (ps.zip ws)) (EP X pins σ Q) X.xe s := by
  refine wpAny_call (codeAny_mono (F.run X.A X.stack s H ⟨[], ps.zip ws⟩ ws zs Q E0 hr I.env0 (hb s ws (by rw [← rz.length]; exact hl)) rz h) fun r s' hq => ?_)
  cases r with
  | error e => exact pass0 pins σ H s e s' I hq
  | ok fl =>
    cases fl with
    | ret u => exact I.after hq
    | next => exact False.elim hq
    | brk => exact False.elim hq
    | cont => exact False.elim hq
theorem s_callk {f : CkL} {ps : List P} {g n : Nat} (hf : SL C call f ps) (hn : ps.length = n) : SE C call (kCallk C g n f) (ofV (cCall call g ps)) := by
  intro e sc fb X G h
  unfold kCallk at h
  split at h
  · rename_i x q kw kws pos
    simp only [Bool.and_eq_true] at h
    obtain ⟨⟨⟨h1, h2⟩, h3⟩, h4⟩ := h
    obtain ⟨o1, o2, o3⟩ := okName_ok h3
    split at h4
    · rename_i y pn hy
      simp only [Bool.and_eq_true, decide_eq_true_eq] at h4
      obtain ⟨⟨rfl, h5⟩, h6⟩ := h4
      obtain ⟨fa, fd, k, k1, k2, k3, k4, k5, k6⟩ := (G.fns g x pn hy).at_
      obtain ⟨a, b, c⟩ := kw_names (X := X) (pos := pos) (kw :: kws) h5
      have hk := (hf _ sc fb X G h1).kw
      have hlen : pn.length = ps.length := by rw [h6, hn]
      rw [hlen] at k5
      refine both ⟨fun pins s σ H Q I hq => ?_⟩ fun _ => rfl
      have hq := call_ok (E := E0) hq
      refine wpAny_Call_Name_kw (ld_glob I (gl_ok G h2) k1 ?_ o1)
      refine PySem.W.callWith_KW0 (h₀ := X.base) I.ok.mod.kin k2 a (thn (hk.run pos pins s σ H _ I hq) fun ws s2 ⟨zs, H2, I2, rz, q2⟩ => ⟨I2.kIn, ?_⟩) (by rw [c]; rfl)
      rw [b]
      have q3 : spOf X.K ps.length (call g) (zs ++ []) H2 Q E0 := q2
      rw [List.append_nil] at q3
      exact run_kw k5 k6 k4 I2 rz (by rw [hlen]; exact q3.1) q3
    · cases h4
  · cases h
theorem s_op {f g : Ck} {pa pb : P} (o : Bop) (ha : SE C call f pa) (hb : SE C call g pb) : SE C call (kOp o f g) (ofV (c2 pa pb fun x y m => optR (bop o x y) m)) := by
  intro e sc fb X G h
  unfold kOp at h
  split at h
  · simp only [Bool.and_eq_true] at h
    obtain ⟨⟨h1, h2⟩, h3⟩ := h
    exact both (pe_c2 (ha _ sc fb X G h2).1 (hb _ sc fb X G h3).1 (op_of o h1)) fun _ => rfl
  · cases h
theorem s_neg {f : Ck} {pa : P} (ha : SE C call f pa) : SE C call (kNeg f) (ofV (c1 pa fun x m => match x with
      | .int i => .ok (.d (.int (-i))) m
      | _ => .fail)) := by
  intro e sc fb X G h
  unfold kNeg at h
  split at h
  · exact both (pe_negR (ha _ sc fb X G h).1) fun _ => rfl
  · cases h
theorem s_cmp {f g : Ck} {pa pb : P} (o : Cop) (ha : SE C call f pa) (hb : SE C call g pb) : SE C call (kCmp o f g) (ofV (c2 pa pb (cmpR o))) := by
  intro e sc fb X G h
  unfold kCmp at h
  split at h
  · simp only [Bool.and_eq_true, Bool.not_eq_true'] at h
    obtain ⟨⟨⟨h1, h2⟩, h3⟩, h4⟩ := h
    have ho := cmp_of (X := X) G.units o h1
    exact ⟨pe_cmpE ho h2 (ha _ sc fb X G h3).1 (hb _ sc fb X G h4).1, pt_cmpE ho h2 (ha _ sc fb X G h3).1 (hb _ sc fb X G h4).1⟩
  · cases h
theorem s_chain {f g k : Ck} {pa pb pc : P} (o o' : Cop) (ha : SE C call f pa) (hb : SE C call g pb) (hc : SE C call k pc) : SE C call (kChain o o' f g k) (ofV (cChain o o' pa pb pc)) := by
  intro e sc fb X G h
  unfold kChain at h
  split at h
  · simp only [Bool.and_eq_true, Bool.not_eq_true'] at h
    obtain ⟨⟨⟨⟨⟨h1, h2⟩, h3⟩, h4⟩, h5⟩, h6⟩ := h
    have ho := cmp_of (X := X) G.units o h1
    have ho' := cmp_of (X := X) G.units o' h2
    have hE := (ha _ sc fb X G h4).1
    have hE2 := (hb _ sc fb X G h5).1
    have hE3 := (hc _ sc fb X G h6).1
    refine ⟨pe_chainE ho ho' h3 hE hE2 hE3, ?_⟩
    refine PT.weak (pt_chain ho ho' hE hE2 hE3 h3) fun σ H Q hq => ?_
    exact chain_ok (chain_bool hq)
  · cases h
theorem s_isN {f : Ck} {pa : P} (ha : SE C call f pa) : SE C call (kIsN f) (ofV (c1 pa fun x m => boolR (isNone x) m)) := by
  intro e sc fb X G h
  unfold kIsN at h
  split at h
  · have hE := (ha _ sc fb X G h).1
    refine ⟨pe_isNR hE, PT.weak (pt_cmpR op_isN hE pe_non (nomark _)) fun σ H Q hq => ?_⟩
    obtain ⟨env, m, g, hs, hm, hz⟩ := c1_ok (c1_bool hq)
    refine ⟨env, m, g, hs, hm, hz.mono fun v m1 g1 H1 e1 s1 z1 x rx => ⟨rfl, ?_⟩⟩
    obtain ⟨m2, g2, d, s2, r2, z2⟩ := z1 x rx
    rw [← none_iff r2]
    exact ans_d s2 z2 (.bl _)
  · cases h
theorem s_isnN {f : Ck} {pa : P} (ha : SE C call f pa) : SE C call (kIsnN f) (ofV (c1 pa fun x m => boolR (!isNone x) m)) := by
  intro e sc fb X G h
  unfold kIsnN at h
  split at h
  · have hE := (ha _ sc fb X G h).1
    refine ⟨pe_isnNR hE, PT.weak (pt_cmpR op_notN hE pe_non (nomark _)) fun σ H Q hq => ?_⟩
    obtain ⟨env, m, g, hs, hm, hz⟩ := c1_ok (c1_bool hq)
    refine ⟨env, m, g, hs, hm, hz.mono fun v m1 g1 H1 e1 s1 z1 x rx => ⟨rfl, ?_⟩⟩
    obtain ⟨m2, g2, d, s2, r2, z2⟩ := z1 x rx
    rw [← none_iff r2]
    exact ans_d s2 z2 (.bl _)
  · cases h
theorem s_and {f : CkL} {ps : List P} (hf : SL C call f ps) (hn : ps ≠ []) : SE C call (kAnd f) ⟨cAnd ps, tAnd ps⟩ := by
  intro e sc fb X G h
  unfold kAnd at h
  split at h
  · rename_i xs q
    have ha := hf _ sc fb X G h
    have hne : xs ≠ [] := fun z => hn (List.length_eq_zero_iff.mp (by rw [← ha.len, z]; rfl))
    obtain ⟨h1, h2⟩ := ha.and hne
    exact ⟨h1, h2.pt⟩
  · cases h
theorem s_or {f : CkL} {ps : List P} (hf : SL C call f ps) (hn : ps ≠ []) : SE C call (kOr f) ⟨cOr ps, tOr ps⟩ := by
  intro e sc fb X G h
  unfold kOr at h
  split at h
  · rename_i xs q
    have ha := hf _ sc fb X G h
    have hne : xs ≠ [] := fun z => hn (List.length_eq_zero_iff.mp (by rw [← ha.len, z]; rfl))
    obtain ⟨h1, h2⟩ := ha.or hne
    exact ⟨h1, h2.pt⟩
  · cases h
theorem s_not {f : Ck} {pa : P} (ha : SE C call f pa) : SE C call (kNot f) ⟨fun env m => (pa.v env m).bind fun v m1 => (truR v m1).bind fun t m2 => boolR (!t) m2, fun env m => (pa.t env m).bind fun t m1 => .ok (!t) m1⟩ := by
  intro e sc fb X G h
  unfold kNot at h
  split at h
  · obtain ⟨h1, h2⟩ := ha _ sc fb X G h
    exact ⟨pe_notR h1, pt_notR h2⟩
  · cases h
theorem pt_iteR {X : Cx} {c a b : Expr} {pc pa pb : P} {pos : Pos} (hc : PT X c (tT X.K pc.t)) (ha : PT X a (tT X.K pa.t)) (hb : PT X b (tT X.K pb.t)) :
    PT X (.IfExp c a b pos) (tT X.K fun env m => (pc.t env m).bind fun t m1 => if t = true then pa.t env m1 else pb.t env m1) := by
  refine ⟨fun pins s σ H Q I ⟨env, m, g, hs, hm, hz⟩ => ?_⟩
  show wpAny _ _ (do if ← isTrue c X.env (eval c X.env) then isTrue a X.env (eval a X.env) else isTrue b X.env (eval b X.env)) _ _ _
  have hz' := Rz.bind hz
  refine wpAny_bind (thn (hc.run pins s σ H (fun t H1 => ∃ m1 g1, Sg X.K env σ g1 H1 ∧ SimM X.K m1 g1 H1 ∧ Rz X.K (if t = true then pa.t env m1 else pb.t env m1) g1 H1 fun b _ _ H' => Q b H') I ⟨env, m, g, hs, hm, hz'.mono fun t m1 g1 H1 e1 s1 z1 => ⟨m1, g1, hs.ext e1, s1, z1⟩⟩) fun t s1 ⟨H1, I1, m1, g1, hs1, hm1, z1⟩ => ?_)
  cases t with
  | true =>
    simp only [if_true] at z1 ⊢
    exact ha.run pins s1 σ H1 Q I1 ⟨env, m1, g1, hs1, hm1, z1⟩
  | false =>
    simp only [Bool.false_eq_true, if_false] at z1 ⊢
    exact hb.run pins s1 σ H1 Q I1 ⟨env, m1, g1, hs1, hm1, z1⟩
theorem s_ite {f g k : Ck} {pc pa pb : P} (hc : SE C call f pc) (ha : SE C call g pa) (hb : SE C call k pb) : SE C call (kIte f g k) ⟨fun env m => (pc.t env m).bind fun t m1 => if t = true then pa.v env m1 else pb.v env m1,
      fun env m => (pc.t env m).bind fun t m1 => if t = true then pa.t env m1 else pb.t env m1⟩ := by
  intro e sc fb X G h
  unfold kIte at h
  split at h
  · simp only [Bool.and_eq_true] at h
    obtain ⟨⟨h1, h2⟩, h3⟩ := h
    obtain ⟨c1, c2⟩ := hc _ sc fb X G h1
    obtain ⟨a1, a2⟩ := ha _ sc fb X G h2
    obtain ⟨b1, b2⟩ := hb _ sc fb X G h3
    exact ⟨pe_iteR c2 a1 b1, pt_iteR c2 a2 b2⟩
  · cases h
theorem s_idx {f g : Ck} {pa pb : P} (ha : SE C call f pa) (hb : SE C call g pb) : SE C call (kIdx f g) (ofV (c2 pa pb fun x y m => (optR (idx x y) m).bind fun z m1 => .ok (.d z) m1)) := by
  intro e sc fb X G h
  unfold kIdx at h
  split at h
  · simp only [Bool.and_eq_true] at h
    obtain ⟨⟨h1, h2⟩, h3⟩ := h
    exact both (pe_idxR (ha _ sc fb X G h2).1 (hb _ sc fb X G h3).1 h1) fun _ => rfl
  · cases h
theorem s_sl {f : Ck} {pa : P} (ha : SE C call f pa) : SE C call (kSl f) (ofV (c1 pa fun x m => optR (slc x none none) m)) := by
  intro e sc fb X G h
  unfold kSl at h
  split at h
  · exact both (pe_slR (ha _ sc fb X G h).1) fun _ => rfl
  · cases h
theorem s_slL {f g : Ck} {pa pb : P} (ha : SE C call f pa) (hb : SE C call g pb) : SE C call (kSlL f g) (ofV (c2 pa pb fun x l m => match l with
      | .int l => optR (slc x (some l) none) m
      | _ => .fail)) := by
  intro e sc fb X G h
  unfold kSlL at h
  split at h
  · obtain ⟨h1, h2⟩ := Bool.and_eq_true_iff.mp h
    exact both (pe_slLR (ha _ sc fb X G h1).1 (hb _ sc fb X G h2).1) fun _ => rfl
  · cases h
theorem s_slU {f g : Ck} {pa pb : P} (ha : SE C call f pa) (hb : SE C call g pb) : SE C call (kSlU f g) (ofV (c2 pa pb fun x h m => match h with
      | .int h => optR (slc x none (some h)) m
      | _ => .fail)) := by
  intro e sc fb X G h
  unfold kSlU at h
  split at h
  · obtain ⟨h1, h2⟩ := Bool.and_eq_true_iff.mp h
    exact both (pe_slUR (ha _ sc fb X G h1).1 (hb _ sc fb X G h2).1) fun _ => rfl
  · cases h
theorem s_slLU {f g k : Ck} {pa pb pc : P} (ha : SE C call f pa) (hb : SE C call g pb) (hc : SE C call k pc) : SE C call (kSlLU f g k) (ofV (cSl3 pa pb pc)) := by
  intro e sc fb X G h
  unfold kSlLU at h
  split at h
  · simp only [Bool.and_eq_true] at h
    obtain ⟨⟨h1, h2⟩, h3⟩ := h
    exact both (pe_slLUR (ha _ sc fb X G h1).1 (hb _ sc fb X G h2).1 (hc _ sc fb X G h3).1) fun _ => rfl
  · cases h
theorem s_rev {f : Ck} {pa : P} (ha : SE C call f pa) : SE C call (kRev f) (ofV (c1 pa fun x m => optR (revd x) m)) := by
  intro e sc fb X G h
  unfold kRev at h
  split at h
  · simp only [Bool.and_eq_true, decide_eq_true_eq] at h
    exact both (pe_revR h.1 (ha _ sc fb X G h.2).1) fun _ => rfl
  · cases h
theorem s_bi {f : CkL} {ps : List P} {n : Nat} (b : Bi) (hf : SL C call f ps) (hn : ps.length = n) : SE C call (kBi C b n f) (ofV (cBi b ps)) := by
  intro e sc fb X G h
  unfold kBi at h
  split at h
  · rename_i x q xs pos
    simp only [Bool.and_eq_true, decide_eq_true_eq] at h
    obtain ⟨⟨⟨⟨h1, h2⟩, h3⟩, h4⟩, h5⟩ := h
    obtain ⟨g1, g2, g3⟩ := blt_ok G h3
    obtain ⟨o1, o2, o3⟩ := okName_ok g3
    have ha := hf _ sc fb X G h4
    subst h2
    cases ha with
    | nil => exact absurd hn.symm h5
    | cons a c d t =>
      refine both ?_ fun _ => rfl
      have hp := (AllP.cons a c d t).args
      cases b with
      | len => exact pe_biB cr_len g1 g2 (by decide +kernel) o3 o1 hp d t.stars
      | abs => exact pe_biB cr_abs g1 g2 (by decide +kernel) o3 o1 hp d t.stars
      | int => exact pe_biT cr_int g1 g2 (by decide +kernel) o3 o1 hp d t.stars
      | list => exact pe_biT (cr_list' G.calm) g1 g2 (by decide +kernel) o3 o1 hp d t.stars
      | tuple => exact pe_biT (cr_tuple' G.calm) g1 g2 (by decide +kernel) o3 o1 hp d t.stars
      | sorted => exact pe_biB (cr_sorted' G.units) g1 g2 (by decide +kernel) o3 o1 hp d t.stars
      | sortedset => cases h1
      | all => exact pe_biB (crAll G.calm) g1 g2 (by decide +kernel) o3 o1 hp d t.stars
      | any => exact pe_biB (crAny G.calm) g1 g2 (by decide +kernel) o3 o1 hp d t.stars
      | min2 => exact pe_biB (cr_min2 G.calm) g1 g2 (by decide +kernel) o3 o1 hp d t.stars
      | max2 => exact pe_biB (cr_max2 G.calm) g1 g2 (by decide +kernel) o3 o1 hp d t.stars
  · cases h
theorem s_set {f : CkL} {ps : List P} (hf : SL C call f ps) : SE C call (kSet C f) (ofV (cBi .sortedset ps)) := by
  intro e sc fb X G h
  unfold kSet at h
  split at h
  · simp only [Bool.and_eq_true, decide_eq_true_eq] at h
    obtain ⟨⟨⟨⟨h1, h2⟩, h3⟩, h4⟩, h5⟩ := h
    obtain ⟨g1, g2, g3⟩ := blt_ok G h2
    obtain ⟨k1, k2, k3⟩ := blt_ok G h4
    have ha := hf _ sc fb X G h5
    cases ha with
    | cons a c d t =>
      cases t
      exact both (pe_setR h1 g1 g2 g3 h3 k1 k2 k3 G.calm G.units a d) fun _ => rfl
  · cases h
theorem cls_ok {X : Cx} {sc : Scope} {fb : Str → Bool} (G : Goo C call sc fb X) {c : Cls} {e : Expr} (h : clsB C sc c e = true) : ∃ y q, e = .Name y q ∧ y = clsN c ∧ Gl X y ∧ X.mg y = none ∧ okName y = true := by
  unfold clsB at h
  split at h
  · rename_i y q
    simp only [Bool.and_eq_true, decide_eq_true_eq] at h
    obtain ⟨g1, g2, g3⟩ := blt_ok G h.2
    exact ⟨y, q, rfl, h.1, g1, g2, g3⟩
  · cases h
theorem clss_ok {X : Cx} {sc : Scope} {fb : Str → Bool} (G : Goo C call sc fb X) : ∀ {cs : List Cls} {es : List Expr}, clssB C sc cs es = true → ClsE X cs es
  | [], [], _ => .nil
  | [], _ :: _, h => by simp [clssB] at h
  | _ :: _, [], h => by simp [clssB] at h
  | c :: cs, e :: es, h => by
    simp only [clssB, Bool.and_eq_true] at h
    obtain ⟨y, q, rfl, a, b, d, k⟩ := cls_ok G h.1
    exact .cons a b d k (clss_ok G h.2)
theorem s_isi {f : Ck} {pa : P} (cs : List Cls) (ha : SE C call f pa) : SE C call (kIsi C cs f) (ofV (c1 pa fun x m => boolR (cs.any (isi x)) m)) := by
  intro e sc fb X G h
  unfold kIsi at h
  split at h
  · simp only [Bool.and_eq_true, decide_eq_true_eq] at h
    obtain ⟨⟨⟨⟨h1, h2⟩, h3⟩, h4⟩, h5⟩ := h
    obtain ⟨g1, g2, g3⟩ := blt_ok G h2
    have hE := (ha _ sc fb X G h4).1
    split at h5
    · obtain ⟨y, q, rfl, a, b, d, k⟩ := cls_ok G h5
      exact both (pe_isi1R h1 g1 g2 g3 hE h3 a b d k) fun _ => rfl
    · split at h5
      · simp only [Bool.and_eq_true, decide_eq_true_eq] at h5
        exact both (pe_isiTR h1 g1 g2 g3 hE h3 (clss_ok G h5.1) h5.2) fun _ => rfl
      · cases h5
  · cases h
theorem s_pop {f : Ck} {pa : P} (i : Nat) (ha : SE C call f pa) : SE C call (kPop C i f) (ofV (cPop i pa)) := by
  intro e sc fb X G h
  unfold kPop at h
  split at h
  · simp only [Bool.and_eq_true, decide_eq_true_eq] at h
    obtain ⟨⟨⟨⟨⟨⟨h1, h2⟩, h3⟩, h4⟩, h5⟩, h6⟩, h7⟩ := h
    obtain ⟨o1, o2, o3⟩ := okName_ok h3
    subst h4
    exact both (pe_popR (by rw [G.N]; exact h1) (vis_ok G h2) o1 o2 (ha _ sc fb X G h7).1 h5 h6) fun _ => rfl
  · cases h
theorem src_ok {X : Cx} {sc : Scope} {fb : Str → Bool} (G : Goo C call sc fb X) {tg iter : Expr} {k : Sk} {xs : List Expr} {ps : List P} (h : srcE C sc tg k iter = some xs) (ha : AllP X xs ps) : PI X tg iter (iS X.K (srcR k ps)) := by
  unfold srcE at h
  split at h
  · cases h
    cases ha with
    | cons a b c d => cases d; exact pi_seqR a
  · split at h
    · split at h
      · rename_i hb
        cases h
        simp only [Bool.and_eq_true, decide_eq_true_eq] at hb
        obtain ⟨rfl, hb⟩ := hb
        obtain ⟨g1, g2, g3⟩ := blt_ok G hb
        cases ha with
        | cons a b c d => cases d; exact pi_rangeR g1 g2 a c
      · cases h
    · cases h
  · split at h
    · split at h
      · rename_i hb
        cases h
        simp only [Bool.and_eq_true, decide_eq_true_eq] at hb
        obtain ⟨⟨rfl, hb⟩, ht⟩ := hb
        obtain ⟨g1, g2, g3⟩ := blt_ok G hb
        unfold isTupE at ht
        split at ht
        · cases ha with
          | cons a b c d =>
            cases d with
            | cons a' b' c' d' => cases d'; exact pi_zipR g1 g2 a a' c c'
        · cases ht
      · cases h
    · cases h
  · split at h
    · split at h
      · rename_i hb
        cases h
        simp only [Bool.and_eq_true, decide_eq_true_eq] at hb
        obtain ⟨⟨rfl, hb⟩, ht⟩ := hb
        obtain ⟨g1, g2, g3⟩ := blt_ok G hb
        unfold isTupE at ht
        split at ht
        · cases ha with
          | cons a b c d => cases d; exact pi_enumR g1 g2 a c
        · cases ht
      · cases h
    · cases h
  · cases h
theorem tests_ok {X : Cx} : ∀ {es : List Expr} {ps : List P}, AllP X es ps → es.length ≤ 1 → PTs X es (tT X.K (tAll ps))
  | _, _, .nil, _ => pts_nilR
  | _, _, .cons a b c .nil, _ => pts_oneR b
  | _, _, .cons a b c (.cons _ _ _ _), h => by simp at h
/-- what a comprehension's check tells -/
theorem lc_facts {X : Cx} {sc : Scope} {fb : Str → Bool} (G : Goo C call sc fb X) {own : List Nat} {t : Tg} {k : Sk} {f g : CkL} {hh : Ck} {src tests : List P} {elt : P} (hf : SL C call f src) (hg : SL C call g tests) (he : SE C call hh elt) {el tg iter : Expr} {ifs : List Expr} {asy : Int} {scope : Scope} {pos : Pos}
    (h : kLc C own t k f g hh sc fb (.ListComp el [⟨tg, iter, ifs, asy⟩] scope pos) = true) :
    asy = 0 ∧ PI X tg iter (iS X.K (srcR k src)) ∧ BlkOk X.N X.env.scope scope (own.map fun i => (C.N.getD i "", i)) ∧ notSet iter = true ∧ (∀ i ∈ slots t, i ∈ (own.map fun i => (C.N.getD i "", i)).map (·.2)) ∧ (own.map fun i => (C.N.getD i "", i)).map (·.2) = own ∧
    (∀ (s : Shared) (H : Hp) (a : Addr) (cl : List (Str × Addr)) (fp : List Addr), PG (X.blk s H scope (compEnvC scope cl a X.env) fp) tg (gT X.K t) ∧ PTs (X.blk s H scope (compEnvC scope cl a X.env) fp) ifs (tT X.K (tAll tests)) ∧ PE (X.blk s H scope (compEnvC scope cl a X.env) fp) el (tE X.K elt.v)) := by
  unfold kLc at h
  simp only [Bool.and_eq_true, decide_eq_true_eq] at h
  obtain ⟨⟨⟨⟨⟨⟨⟨⟨h0, h1⟩, h2⟩, h3⟩, h4⟩, h5⟩, h6⟩, h7⟩, h8⟩ := h
  have hmap : (own.map fun i => (C.N.getD i "", i)).map (·.2) = own := by
    rw [List.map_map]
    exact List.map_id _
  have hb : BlkOk C.N sc scope (own.map fun i => (C.N.getD i "", i)) := blkOk_by h4
  refine ⟨h0, ?_, ?_, h2, ?_, hmap, ?_⟩
  · split at h1
    · rename_i xs hx
      exact src_ok G hx (hf _ sc fb X G h1)
    · cases h1
  · rw [G.N, G.hsc]; exact hb
  · rw [hmap]
    intro i hi
    exact of_decide_eq_true (List.all_eq_true.mp h5 i hi)
  · intro s H a cl fp
    have G' := G.blk hb.kind s H a cl fp
    exact ⟨soundT G' t tg h6, tests_ok (hg _ _ _ _ G' h7) h3, (he _ _ _ _ G' h8).1⟩
theorem s_lc {f g : CkL} {hh : Ck} {src tests : List P} {elt : P} (own : List Nat) (t : Tg) (k : Sk) (hf : SL C call f src) (hg : SL C call g tests) (he : SE C call hh elt) : SE C call (kLc C own t k f g hh) (ofV (cLc own t k src tests elt)) := by
  intro e sc fb X G h
  have h' := h
  unfold kLc at h'
  split at h'
  · rename_i el tg iter ifs asy scope pos
    obtain ⟨h0, h1, h2, h3, h4, h5, h6⟩ := lc_facts G hf hg he h
    subst h0
    have q := pe_lcR (pos := pos) G.calm (by rw [G.N]; exact G.nd) h1 h2 (fun s H a cl fp => (h6 s H a cl fp).1) (fun s H a cl fp => (h6 s H a cl fp).2.1) (fun s H a cl fp => (h6 s H a cl fp).2.2) h3 h4
    rw [h5] at q
    exact both q fun _ => rfl
  · cases h'
theorem sems_len (es : List E) : (sems call es).length = es.length := by
  induction es with
  | nil => rfl
  | cons e es ih => simp [sems, ih]
theorem sems_ne {es : List E} (h : es ≠ []) : sems call es ≠ [] := by
  cases es with
  | nil => exact absurd rfl h
  | cons e es => simp [sems]
mutual
theorem soundE : ∀ e : E, SE C call (chkE C e) (sem call e)
  | .bad => fun e sc fb X G h => ⟨pe_badR e, ⟨fun pins s σ H Q I ⟨env, m, g, hs, hm, hz⟩ => hz.elim⟩⟩
  | .var i => s_var i
  | .cst c => s_cst c
  | .glo c => s_glo c
  | .tup es => s_tup (soundL es) (sems_len es)
  | .lst es => s_lst (soundL es) (sems_len es)
  | .call f es => s_call (soundL es) (sems_len es)
  | .callc f es => s_callc (soundL es) (sems_len es)
  | .callk f es => s_callk (soundL es) (sems_len es)
  | .cell e => fun ex sc fb X G h => by
    have q := soundE e ex sc fb X G h
    exact ⟨pe_cellR q.1, ⟨fun pins s σ H Q I ⟨env, m, g, hs, hm, hz⟩ => hz.elim⟩⟩
  | .op o a b => s_op o (soundE a) (soundE b)
  | .neg a => s_neg (soundE a)
  | .cmp o a b => s_cmp o (soundE a) (soundE b)
  | .chain o o' a b c => s_chain o o' (soundE a) (soundE b) (soundE c)
  | .isN a => s_isN (soundE a)
  | .isnN a => s_isnN (soundE a)
  | .band [] => fun e sc fb X G h => ⟨⟨fun pins s σ H Q I ⟨env, m, g, hs, hm, hz⟩ => hz.elim⟩, ⟨fun pins s σ H Q I ⟨env, m, g, hs, hm, hz⟩ => hz.elim⟩⟩
  | .band (e :: es) => s_and (soundL (e :: es)) (sems_ne (by simp))
  | .bor [] => fun e sc fb X G h => ⟨⟨fun pins s σ H Q I ⟨env, m, g, hs, hm, hz⟩ => hz.elim⟩, ⟨fun pins s σ H Q I ⟨env, m, g, hs, hm, hz⟩ => hz.elim⟩⟩
  | .bor (e :: es) => s_or (soundL (e :: es)) (sems_ne (by simp))
  | .not a => s_not (soundE a)
  | .ite c a b => s_ite (soundE c) (soundE a) (soundE b)
  | .idx a i => s_idx (soundE a) (soundE i)
  | .sl a => s_sl (soundE a)
  | .slL a l => s_slL (soundE a) (soundE l)
  | .slU a h => s_slU (soundE a) (soundE h)
  | .slLU a l h => s_slLU (soundE a) (soundE l) (soundE h)
  | .rev a => s_rev (soundE a)
  | .bi b es => by
    cases b with
    | sortedset => exact s_set (soundL es)
    | len => exact s_bi .len (soundL es) (sems_len es)
    | abs => exact s_bi .abs (soundL es) (sems_len es)
    | int => exact s_bi .int (soundL es) (sems_len es)
    | list => exact s_bi .list (soundL es) (sems_len es)
    | tuple => exact s_bi .tuple (soundL es) (sems_len es)
    | sorted => exact s_bi .sorted (soundL es) (sems_len es)
    | all => exact s_bi .all (soundL es) (sems_len es)
    | any => exact s_bi .any (soundL es) (sems_len es)
    | min2 => exact s_bi .min2 (soundL es) (sems_len es)
    | max2 => exact s_bi .max2 (soundL es) (sems_len es)
  | .isi a cs => s_isi cs (soundE a)
  | .pop i e => s_pop i (soundE e)
  | .lc own t k src tests elt => s_lc own t k (soundL src) (soundL tests) (soundE elt)
  | .lc2 .. => fun e sc fb X G h => by cases h
theorem soundL : ∀ es : List E, SL C call (chkL C es) (sems call es)
  | [] => fun xs sc fb X G h => by
    cases xs with
    | nil => exact .nil
    | cons _ _ => cases h
  | e :: es => fun xs sc fb X G h => by
    cases xs with
    | nil => cases h
    | cons x xs =>
      have h' : (notStar x && chkE C e sc fb x && chkL C es sc fb xs) = true := h
      simp only [Bool.and_eq_true] at h'
      obtain ⟨⟨h1, h2⟩, h3⟩ := h'
      obtain ⟨a, b⟩ := soundE e x sc fb X G h2
      exact .cons a b h1 (soundL es xs sc fb X G h3)
end
end
end Ra


set_option Elab.async false
set_option linter.all false
set_option autoImplicit false
set_option maxRecDepth 100000
/-! statements that are checked are sound -/
namespace Ra
open PySem PySem.Spec PyProof.Rows L2
def isStarE : Expr → Bool
  | .Starred .. => true
  | _ => false
/-- the names that are stored crosswise; none at the outside: not told -/
def swB (sc : Scope) (ts vs : List Expr) : Option (Option (List Str)) :=
  if (!(ts.length == 2 || ts.length == 3) || vs.length != ts.length) = true then some none
  else if (vs.any isStarE) = true then some none
  else
    let line := (ts.head?.map (·.pos.line)).getD 0
    let names := ts.filterMap fun
      | .Name id pos => if (sc.names.lookup id == some .local && pos.line == line) = true then some id else none
      | _ => none
    if (names.length != ts.length || names.eraseDups.length != names.length) = true then some none
    else if (vs.all (foldedForSure 8)) = true then some none
    else if (vs.all (constantsAlone 8)) = true then none
    else some (some names)
theorem sw_ok {env : PySem.Env} {sc : Scope} (h1 : env.scope = sc) (h2 : sc.kind = .function) {ts vs : List Expr} {k k2 : Nat} {q q2 : Pos} {r : Option (List Str)} (h : swB sc ts vs = some r) : swappedStores [.Tuple ts k q] (.Tuple vs k2 q2) env = pure r := by
  have hb : env.blockKind = .function := by unfold Env.blockKind; rw [h1, h2]; rfl
  have hk : ∀ x, env.kindOf x = sc.names.lookup x := fun x => by unfold Env.kindOf; rw [h1]
  have hst : (fun (e : Expr) => match e with | .Starred .. => true | _ => false) = isStarE := by
    funext e
    cases e <;> rfl
  unfold swB at h
  unfold swappedStores
  simp only [hb, hk]
  split at h
  · rename_i hc
    cases h
    have : (!(ts.length == 2 || ts.length == 3) || vs.length != ts.length || (ScopeKind.function != ScopeKind.function)) = true := by
      rw [hc]; rfl
    simp only [this, if_true]
  · rename_i hc
    have hc' : (!(ts.length == 2 || ts.length == 3) || vs.length != ts.length) = false := by simpa using hc
    have : (!(ts.length == 2 || ts.length == 3) || vs.length != ts.length || (ScopeKind.function != ScopeKind.function)) = false := by
      rw [hc']; rfl
    simp only [this, Bool.false_eq_true, if_false]
    have hst2 : (vs.any fun (e : Expr) => match e with | .Starred .. => true | _ => false) = vs.any isStarE := by rw [hst]
    split at h
    · rename_i h3
      cases h
      exact (if_pos (by rw [← hst2] at h3; exact h3))
    · rename_i h3
      refine (if_neg (by rw [← hst2] at h3; exact h3)).trans ?_
      simp only at h
      split at h
      · rename_i h4
        cases h
        exact if_pos h4
      · rename_i h4
        refine (if_neg h4).trans ?_
        split at h
        · rename_i h5
          cases h
          exact if_pos h5
        · rename_i h5
          refine (if_neg h5).trans ?_
          split at h
          · cases h
          · rename_i h6
            cases h
            exact if_neg h6
/-- no comprehension -/
def notComp : Expr → Bool
  | .ListComp .. => false
  | .SetComp .. => false
  | .DictComp .. => false
  | _ => true
theorem not_swaps {e : Expr} (h : notComp e = true) (t : Option Expr) (l : Nat) (env : PySem.Env) : swapsWith e t l env = pure false := by
  cases e <;> first | rfl | (cases h; done)
theorem sub_swaps {e o j : Expr} {q : Pos} {l : Nat} {env : PySem.Env} : swapsWithSole [.Subscript o j q] e l env = pure false := by
  cases e <;> rfl
theorem tup_swaps {e : Expr} {ts : List Expr} {k : Nat} {q : Pos} {l : Nat} {env : PySem.Env} : swapsWithSole [.Tuple ts k q] e l env = pure false := by
  cases e <;> rfl
def notTupE : Expr → Bool
  | .Tuple .. => false
  | _ => true
theorem tup_stores {e : Expr} {ts : List Expr} {k : Nat} {q : Pos} {env : PySem.Env} (h : notTupE e = true) : swappedStores [.Tuple ts k q] e env = pure none := by
  cases e <;> first | rfl | (cases h; done)
theorem sub_stores {e o j : Expr} {q : Pos} {env : PySem.Env} : swappedStores [.Subscript o j q] e env = pure none := by
  cases e <;> rfl
abbrev Cs2 := Scope → (Str → Bool) → Stmt → Bool
abbrev CsL := Scope → (Str → Bool) → List Stmt → Bool
/-- y = [..] is stored within the comprehension's block -/
def swLc (sc : Scope) (y : Str) (py : Pos) (scope : Scope) (pos : Pos) : Bool := lclB sc y && (py.line == pos.line) && !(scope.names.any fun (n, k) => n == y && (k == .local || k == .cell))
theorem sw_false {elt : Expr} {gs : List Comprehension} {scope : Scope} {pos py : Pos} {y : Str} {l : Nat} {env : PySem.Env} {sc : Scope} (h1 : env.scope = sc) (h : swLc sc y py scope pos = false) : swapsWith (.ListComp elt gs scope pos) (some (.Name y py)) l env = pure false := by
  unfold swapsWith
  simp only
  have hk : env.kindOf y = sc.names.lookup y := by unfold Env.kindOf; rw [h1]
  have hl : (sc.names.lookup y == some NameKind.local) = lclB sc y := by
    unfold lclB
    cases sc.names.lookup y with
    | none => rfl
    | some k => cases k <;> rfl
  have key : (env.blockKind == .function && env.kindOf y == some .local && py.line == (Expr.ListComp elt gs scope pos).pos.line && !(scope.names.any fun (n, k) => n == y && (k == .local || k == .cell))) = false := by
    rw [hk, hl]
    unfold swLc at h
    show (env.blockKind == .function && lclB sc y && py.line == pos.line && !(scope.names.any fun (n, k) => n == y && (k == .local || k == .cell))) = false
    cases h3 : (env.blockKind == ScopeKind.function) with
    | false => rfl
    | true => simpa using h
  exact congrArg pure key
section
variable (C : Cs)
def kExpr (f : Ck) : Cs2 := fun sc fb st => match st with
  | .Expr x _ => notComp x && f sc fb x
  | _ => false
def nameB (sc : Scope) (fb : Str → Bool) (i : Nat) (x : Str) : Bool := decide (C.N[i]? = some x) && locB sc x && (fb x || lclB sc x)
def kAsg (i : Nat) (f : Ck) : Cs2 := fun sc fb st => match st with
  | .Assign [.Name x q] v _ => nameB C sc fb i x && f sc fb v && (notComp v || (match v with
    | .ListComp _ _ scope p => !swLc sc x q scope p
    | _ => false))
  | _ => false
/-- y = [..] -/
def kAsgLc (i : Nat) (f : Ck) : Cs2 := fun sc fb st => match st with
  | .Assign [.Name x q] v _ => nameB C sc fb i x && f sc fb v && (match v with
    | .ListComp _ [⟨_, _, _, _⟩] scope p => swLc sc x q scope p
    | _ => false)
  | _ => false
def kSetT (ts : List Tg) (f : Ck) : Cs2 := fun sc fb st => match st with
  | .Assign [.Tuple es _ _] v _ => chkTs C.N sc fb ts es && f sc fb v && notTupE v
  | _ => false
def namesB (sc : Scope) (fb : Str → Bool) : List (Nat × Bool) → List Expr → Bool
  | [], [] => true
  | (i, _) :: is, .Name x _ :: es => nameB C sc fb i x && namesB sc fb is es
  | _, _ => false
def kPar2 (i j : Nat) (n : Nat) (f : CkL) : Cs2 := fun sc fb st => match st with
  | .Assign [.Tuple [.Name x _, .Name y _] _ _] (.Tuple [a, b] _ _) _ => nameB C sc fb i x && nameB C sc fb j y && decide (i ≠ j) && lclB sc x && lclB sc y && f sc fb [a, b] && decide (n = 2)
  | _ => false
def kPar (is : List (Nat × Bool)) (n : Nat) (f : CkL) : Cs2 := fun sc fb st => match st with
  | .Assign [.Tuple ts _ _] (.Tuple vs _ _) _ => match swB sc ts vs with
    | some none => namesB C sc fb is ts && f sc fb vs && decide (n ≤ 1000) && decide (is.length = n)
    | some (some ns) => match ts, vs, is with
      | [.Name x _, .Name y _], [_, _], [(i, _), (j, _)] => decide (ns = [x, y]) && nameB C sc fb i x && nameB C sc fb j y && decide (i ≠ j) && lclB sc x && lclB sc y && f sc fb vs && decide (n = 2)
      | _, _, _ => false
    | none => false
  | _ => false
def kApp (i : Nat) (f : Ck) : Cs2 := fun sc fb st => match st with
  | .Expr (.Call (.Attribute (.Name x _) m apos) [y] [] cpos) _ => decide (C.N[i]? = some x) && visB sc x && okName x && decide (m = "append") && notStar y && (apos.endLine == cpos.line) && f sc fb y
  | _ => false
def kPut (i : Nat) (f g : Ck) : Cs2 := fun sc fb st => match st with
  | .Assign [.Subscript (.Name x _) j _] v _ => decide (C.N[i]? = some x) && visB sc x && okName x && notSlice j && f sc fb j && g sc fb v
  | _ => false
def kRet (f : Ck) : Cs2 := fun sc fb st => match st with
  | .Return (some x) _ => f sc fb x
  | _ => false
def kRetN : Cs2 := fun _ _ st => match st with
  | .Return none _ => true
  | _ => false
def kIf (f : Ck) (g h : CsL) : Cs2 := fun sc fb st => match st with
  | .If x a b _ => f sc fb x && g sc fb a && h sc fb b
  | _ => false
def kFor (t : Tg) (k : Sk) (f : CkL) (g : CsL) : Cs2 := fun sc fb st => match st with
  | .For tg iter body [] _ => (match srcE C sc tg k iter with | some xs => f sc fb xs | none => false) && notSet iter && chkT C.N sc fb t tg && g sc fb body
  | _ => false
def kWhile (f : Ck) (g : CsL) : Cs2 := fun sc fb st => match st with
  | .While x body [] _ => f sc fb x && g sc fb body
  | _ => false
def kPass : Cs2 := fun _ _ st => match st with
  | .Pass _ => true
  | _ => false
def kBrk : Cs2 := fun _ _ st => match st with
  | .Break _ => true
  | _ => false
def kCnt : Cs2 := fun _ _ st => match st with
  | .Continue _ => true
  | _ => false
mutual
def chkS : S → Cs2
  | .bad => fun _ _ _ => true
  | .expr e => kExpr (chkE C e)
  | .set i _ e => match e with
    | .lc own t k src tests elt => fun sc fb st => kAsg C i (chkE C (.lc own t k src tests elt)) sc fb st || kAsgLc C i (chkE C (.lc own t k src tests elt)) sc fb st
    | e => kAsg C i (chkE C e)
  | .setT t e => match t with
    | .tp ts => kSetT C ts (chkE C e)
    | _ => fun _ _ _ => false
  | .par is es => kPar C is es.length (chkL C es)
  | .app i e => kApp C i (chkE C e)
  | .ext _ _ => fun _ _ _ => false
  | .put i j e => kPut C i (chkE C j) (chkE C e)
  | .ret e => kRet (chkE C e)
  | .retN => kRetN
  | .iff c a b => kIf (chkE C c) (chkB a) (chkB b)
  | .for t k src body => kFor C t k (chkL C src) (chkB body)
  | .while c body => kWhile (chkE C c) (chkB body)
  | .pass => kPass
  | .brk => kBrk
  | .cnt => kCnt
def chkB : List S → CsL
  | [] => fun _ _ xs => xs.isEmpty
  | s :: r => fun sc fb xs => match xs with
    | [] => false
    | x :: xs => chkS s sc fb x && chkB r sc fb xs
end
end
end Ra


set_option Elab.async false
set_option linter.all false
set_option autoImplicit false
set_option maxRecDepth 100000
/-! statements and defs that are checked are sound -/
namespace Ra
open PySem PySem.Spec PyProof.Rows L2
abbrev SS (C : Cs) (call : Call) (f : Cs2) (x : EX) : Prop := ∀ (st : Stmt) (sc : Scope) (fb : Str → Bool) (X : Cx), Goo C call sc fb X → f sc fb st = true → PS X st (tS X.K x)
abbrev SB (C : Cs) (call : Call) (f : CsL) (x : EX) : Prop := ∀ (st : List Stmt) (sc : Scope) (fb : Str → Bool) (X : Cx), Goo C call sc fb X → f sc fb st = true → PSs X st (tS X.K x)
section
variable {C : Cs} {call : Call}
theorem name_ok {X : Cx} {sc : Scope} {fb : Str → Bool} (G : Goo C call sc fb X) {i : Nat} {x : Str} (h : nameB C sc fb i x = true) : X.N[i]? = some x ∧ L2.Loc X.env.scope x ∧ (X.fn x = true ∨ X.env.scope.names.lookup x = some .local) := by
  unfold nameB at h
  simp only [Bool.and_eq_true, decide_eq_true_eq] at h
  refine ⟨by rw [G.N]; exact h.1.1, loc_ok G h.1.2, ?_⟩
  rcases Bool.or_eq_true_iff.mp h.2 with q | q
  · exact .inl (by rw [G.fn]; exact q)
  · exact .inr (lcl_ok G q)
theorem x_expr {f : Ck} {p : P} (hf : SE C call f p) : SS C call (kExpr f) (fun env m => (p.v env m).bind fun _ m1 => .ok (.next env) m1) := by
  intro st sc fb X G h
  unfold kExpr at h
  split at h
  · obtain ⟨h1, h2⟩ := Bool.and_eq_true_iff.mp h
    exact ps_exprR (hf _ sc fb X G h2).1 (not_swaps h1 _ _ _)
  · cases h
theorem x_asg {f : Ck} {p : P} (i : Nat) (c : Bool) (hf : SE C call f p) : SS C call (kAsg C i f) (xSet i c p) := by
  intro st sc fb X G h
  unfold kAsg at h
  split at h
  · simp only [Bool.and_eq_true] at h
    obtain ⟨⟨h1, h2⟩, h3⟩ := h
    obtain ⟨a, b, d⟩ := name_ok G h1
    refine ps_setR (by rw [G.N]; exact G.nd) a b d (hf _ sc fb X G h2).1 ?_
    rcases Bool.or_eq_true_iff.mp h3 with q | q
    · exact not_swaps q _ _ _
    · split at q
      · exact sw_false G.hsc (by simpa using q)
      · cases q
  · cases h
theorem x_asgLc {f g : CkL} {hh : Ck} {src tests : List P} {elt : P} (i : Nat) (c : Bool) (own : List Nat) (t : Tg) (k : Sk) (hf : SL C call f src) (hg : SL C call g tests) (he : SE C call hh elt) : SS C call (kAsgLc C i (kLc C own t k f g hh)) (xSet i c (ofV (cLc own t k src tests elt))) := by
  intro st sc fb X G h
  unfold kAsgLc at h
  split at h
  · rename_i xx qq vv spos
    simp only [Bool.and_eq_true] at h
    obtain ⟨⟨h1, h2⟩, h3⟩ := h
    obtain ⟨a, b, d⟩ := name_ok G h1
    split at h3
    · rename_i el tg iter ifs asy scope pos
      obtain ⟨k0, k1, k2, k3, k4, k5, k6⟩ := lc_facts G hf hg he h2
      subst k0
      unfold swLc at h3
      simp only [Bool.and_eq_true, Bool.not_eq_true'] at h3
      have hl := lcl_ok G h3.1.1
      have q := ps_setLcR (pos := pos) (spos := spos) (c := c) G.calm (by rw [G.N]; exact G.nd) a hl (sw_true (by rw [G.hsc]; exact G.kind) hl h3.1.2 h3.2) k1 k2 (fun s H a cl fp => (k6 s H a cl fp).1) (fun s H a cl fp => (k6 s H a cl fp).2.1) (fun s H a cl fp => (k6 s H a cl fp).2.2) k3 k4
      rw [k5] at q
      exact q
    · cases h3
  · cases h
theorem x_setT {f : Ck} {p : P} (ts : List Tg) (hf : SE C call f p) : SS C call (kSetT C ts f) (xSetT (.tp ts) p) := by
  intro st sc fb X G h
  unfold kSetT at h
  split at h
  · simp only [Bool.and_eq_true] at h
    obtain ⟨⟨h1, h2⟩, h3⟩ := h
    obtain ⟨a, b, c⟩ := soundTs G ts _ h1
    exact ps_setTR (pg_tupR G.calm a b c) (hf _ sc fb X G h2).1 (tup_stores h3) tup_swaps
  · cases h
theorem names_ok {X : Cx} {sc : Scope} {fb : Str → Bool} (G : Goo C call sc fb X) : ∀ {is : List (Nat × Bool)} {es : List Expr}, namesB C sc fb is es = true → PGs X es (gSets is) ∧ es.all notStar = true ∧ es.length = is.length
  | [], [], _ => ⟨pgs_nil, rfl, rfl⟩
  | [], _ :: _, h => by simp [namesB] at h
  | (i, c) :: is, [], h => by simp [namesB] at h
  | (i, c) :: is, e :: es, h => by
    cases e with
    | Name x q =>
      simp only [namesB, Bool.and_eq_true] at h
      obtain ⟨a, b, d⟩ := name_ok G h.1
      obtain ⟨k1, k2, k3⟩ := names_ok G h.2
      exact ⟨pgs_cons (pg_name (by rw [G.N]; exact G.nd) a b d) k1 rfl, by simp [notStar, k2], by simp [k3]⟩
    | _ => simp [namesB] at h
theorem AllP.par {X : Cx} : ∀ {es : List Expr} {ps : List P}, AllP X es ps → ∀ {is : List (Nat × Bool)}, is.length = ps.length → PA X es (tPv X.K is ps)
  | _, _, .nil, [], _ => pa_par_nil
  | _, _, .nil, _ :: _, h => by simp at h
  | _, _, .cons _ _ _ _, [], h => by simp at h
  | _, _, .cons a b c d, (i, cc) :: is, h => pa_par_cons a (d.par (by simpa using h)) c
theorem x_par {f : CkL} {ps : List P} {n : Nat} (is : List (Nat × Bool)) (hf : SL C call f ps) (hn : ps.length = n) : SS C call (kPar C is n f) (xPar is ps) := by
  intro st sc fb X G h
  unfold kPar at h
  split at h
  · split at h
    · rename_i hsw
      simp only [Bool.and_eq_true, decide_eq_true_eq] at h
      obtain ⟨⟨⟨h1, h2⟩, h3⟩, h4⟩ := h
      obtain ⟨a, b, c⟩ := names_ok G h1
      have ha := hf _ sc fb X G h2
      exact ps_parNR G.calm a b c (by rw [ha.len, hn]; exact h3) (ha.par (by rw [hn]; exact h4)) (by rw [h4]; exact h3) (sw_ok G.hsc G.kind hsw)
    · rename_i ns hsw
      split at h
      · simp only [Bool.and_eq_true, decide_eq_true_eq] at h
        obtain ⟨⟨⟨⟨⟨⟨⟨h0, h1⟩, h2⟩, h3⟩, h4⟩, h5⟩, h6⟩, h7⟩ := h
        subst h0
        obtain ⟨a1, a2, a3⟩ := name_ok G h1
        obtain ⟨b1, b2, b3⟩ := name_ok G h2
        have ha := hf _ sc fb X G h6
        exact ps_par2R G.calm (by rw [G.N]; exact G.nd) a1 b1 h3 (lcl_ok G h4) (lcl_ok G h5) (ha.par (by rw [hn, h7]; rfl)) (sw_ok G.hsc G.kind hsw)
      · cases h
    · cases h
  · cases h
theorem x_app {f : Ck} {p : P} (i : Nat) (hf : SE C call f p) : SS C call (kApp C i f) (xApp i p) := by
  intro st sc fb X G h
  unfold kApp at h
  split at h
  · simp only [Bool.and_eq_true, decide_eq_true_eq] at h
    obtain ⟨⟨⟨⟨⟨⟨h1, h2⟩, h3⟩, h4⟩, h5⟩, h6⟩, h7⟩ := h
    obtain ⟨o1, o2, o3⟩ := okName_ok h3
    subst h4
    exact ps_appR (by rw [G.N]; exact h1) (vis_ok G h2) o1 o2 (hf _ sc fb X G h7).1 h5 h6
  · cases h
theorem x_put {f g : Ck} {pj p : P} (i : Nat) (hf : SE C call f pj) (hg : SE C call g p) : SS C call (kPut C i f g) (xPut i pj p) := by
  intro st sc fb X G h
  unfold kPut at h
  split at h
  · simp only [Bool.and_eq_true, decide_eq_true_eq] at h
    obtain ⟨⟨⟨⟨⟨h1, h2⟩, h3⟩, h4⟩, h5⟩, h6⟩ := h
    obtain ⟨o1, o2, o3⟩ := okName_ok h3
    exact ps_putR (by rw [G.N]; exact h1) (vis_ok G h2) o1 o2 (hg _ sc fb X G h6).1 (hf _ sc fb X G h5).1 h4 sub_swaps sub_stores
  · cases h
theorem x_ret {f : Ck} {p : P} (hf : SE C call f p) : SS C call (kRet f) (xRet p) := by
  intro st sc fb X G h
  unfold kRet at h
  split at h
  · exact ps_retR (hf _ sc fb X G h).1
  · cases h
theorem x_if {f : Ck} {g k : CsL} {p : P} {a b : EX} (hf : SE C call f p) (hg : SB C call g a) (hk : SB C call k b) : SS C call (kIf f g k) (xIf p a b) := by
  intro st sc fb X G h
  unfold kIf at h
  split at h
  · simp only [Bool.and_eq_true] at h
    obtain ⟨⟨h1, h2⟩, h3⟩ := h
    exact ps_ifR (hf _ sc fb X G h1).2 (hg _ sc fb X G h2) (hk _ sc fb X G h3)
  · cases h
theorem x_for {f : CkL} {g : CsL} {ps : List P} {b : EX} (t : Tg) (k : Sk) (hf : SL C call f ps) (hg : SB C call g b) : SS C call (kFor C t k f g) (xFor t k ps b) := by
  intro st sc fb X G h
  unfold kFor at h
  split at h
  · simp only [Bool.and_eq_true] at h
    obtain ⟨⟨⟨h1, h2⟩, h3⟩, h4⟩ := h
    split at h1
    · rename_i xs hx
      exact ps_forR G.xe G.calm (src_ok G hx (hf _ sc fb X G h1)) (soundT G t _ h3) (hg _ sc fb X G h4) h2
    · cases h1
  · cases h
theorem x_while {f : Ck} {g : CsL} {p : P} {b : EX} (n : Nat) (hf : SE C call f p) (hg : SB C call g b) : SS C call (kWhile f g) (whileLoop p b n) := by
  intro st sc fb X G h
  unfold kWhile at h
  split at h
  · simp only [Bool.and_eq_true] at h
    exact ps_whileR G.xe (hf _ sc fb X G h.1).2 (hg _ sc fb X G h.2)
  · cases h
variable (wf : Nat)
mutual
theorem soundS : ∀ s : S, SS C call (chkS C s) (exS call wf s)
  | .bad => fun st sc fb X G h => ps_badR st
  | .expr e => x_expr (soundE e)
  | .set i c e => by
    cases e with
    | lc own t k src tests elt =>
      intro st sc fb X G h
      rcases Bool.or_eq_true_iff.mp h with h | h
      · exact x_asg i c (soundE (.lc own t k src tests elt)) st sc fb X G h
      · exact x_asgLc i c own t k (soundL src) (soundL tests) (soundE elt) st sc fb X G h
    | _ => exact x_asg i c (soundE _)
  | .setT t e => by
    cases t with
    | tp ts => exact x_setT ts (soundE e)
    | nm i => exact fun st sc fb X G h => by cases h
  | .par is es => x_par is (soundL es) (sems_len es)
  | .app i e => x_app i (soundE e)
  | .ext _ _ => fun st sc fb X G h => by cases h
  | .put i j e => x_put i (soundE j) (soundE e)
  | .ret e => x_ret (soundE e)
  | .retN => fun st sc fb X G h => by
    have h' : kRetN sc fb st = true := h
    unfold kRetN at h'
    split at h'
    · exact ps_retNR
    · cases h'
  | .iff c a b => x_if (soundE c) (soundB a) (soundB b)
  | .for t k src body => x_for t k (soundL src) (soundB body)
  | .while c body => x_while wf (soundE c) (soundB body)
  | .pass => fun st sc fb X G h => by
    have h' : kPass sc fb st = true := h
    unfold kPass at h'
    split at h'
    · exact ps_passR
    · cases h'
  | .brk => fun st sc fb X G h => by
    have h' : kBrk sc fb st = true := h
    unfold kBrk at h'
    split at h'
    · exact ps_brkR
    · cases h'
  | .cnt => fun st sc fb X G h => by
    have h' : kCnt sc fb st = true := h
    unfold kCnt at h'
    split at h'
    · exact ps_cntR
    · cases h'
theorem soundB : ∀ b : List S, SB C call (chkB C b) (exB call wf b)
  | [] => fun xs sc fb X G h => by
    cases xs with
    | nil => exact pss_nilR
    | cons _ _ => cases h
  | s :: r => fun xs sc fb X G h => by
    cases xs with
    | nil => cases h
    | cons x xs =>
      have h' : (chkS C s sc fb x && chkB C r sc fb xs) = true := h
      obtain ⟨h1, h2⟩ := Bool.and_eq_true_iff.mp h'
      exact pss_consR (soundS s x sc fb X G h1) (soundB r xs sc fb X G h2)
end
end
end Ra


set_option Elab.async false
set_option linter.all false
set_option autoImplicit false
set_option maxRecDepth 100000
/-! a table of defs -/
namespace Ra
open PySem PySem.Spec PyProof.Rows L2
/-- a def of the text beside its term -/
structure Df where
  name : Str
  ps : List Str
  N : List Str
  params : Arguments
  body : List Stmt
  scope : Scope
  fn : List S
def Df.fnT (d : Df) : Fn := ⟨d.N.length, d.ps.length, d.fn⟩
def ndB : List Str → Bool
  | [] => true
  | x :: r => !r.contains x && ndB r
theorem nd_ok : ∀ {l : List Str}, ndB l = true → l.Nodup
  | [], _ => .nil
  | x :: r, h => by
    obtain ⟨h1, h2⟩ := Bool.and_eq_true_iff.mp (show (!r.contains x && ndB r) = true from h)
    exact List.nodup_cons.mpr ⟨by simpa using h1, nd_ok h2⟩
def scB (N ps : List Str) (sc : Scope) : Bool :=
  (match sc.kind with | .function => true | _ => false) && !sc.isCoroutine && !sc.isGenerator && ndB N && decide (N.take ps.length = ps) && ps.all (fun x => locB sc x) && sc.names.all (fun y => match y.2 with | .free => false | _ => true)
theorem sc_ok {N ps : List Str} {sc : Scope} (h : scB N ps sc = true) : FnScope N ps sc := by
  unfold scB at h
  simp only [Bool.and_eq_true, Bool.not_eq_true', decide_eq_true_eq, List.all_eq_true] at h
  obtain ⟨⟨⟨⟨⟨⟨h1, h2⟩, h3⟩, h4⟩, h5⟩, h6⟩, h7⟩ := h
  refine ⟨?_, h2, h3, nd_ok h4, h5, fun x hx => ?_, fun y hy e => ?_⟩
  · split at h1
    · assumption
    · cases h1
  · have q := h6 x hx
    unfold locB at q
    split at q
    · rename_i e; exact .inl e
    · rename_i e; exact .inr e
    · cases q
  · have q := h7 y hy
    rw [e] at q
    cases q
def csOf (D : List Df) (free : List Str) (glo : List (Str × PyData)) (N : List Str) : Cs := ⟨N, D.map fun d => (d.name, d.ps), free, glo⟩
def dfB (D : List Df) (free : List Str) (glo : List (Str × PyData)) (d : Df) : Bool := scB d.N d.ps d.scope && decide (d.ps.length ≤ d.N.length) && chkB (csOf D free glo d.N) d.fn d.scope (fun _ => true) d.body
theorem tab_ok {P : Program} {w : World} {K : PySem.W.Frag} {mg : Str → Option Value} {base : Heap} {D : List Df} {free : List Str} {glo : List (Str × PyData)} {wf : Nat} (f : Nat → Addr) (fd : Nat → FuncData)
    (hF : ∀ i d, D[i]? = some d → FunD K d.name d.name d.params d.body d.scope [] [] (f i) (fd i) ∧ mg d.name = some (.ref (f i)) ∧ Binds K (fd i) d.ps [] ∧ (∀ (s : Shared) (ws : List Value), ws.length = d.ps.length → BindsTo s (fd i) ⟨[], d.ps.zip ws⟩ (d.ps.zip ws)))
    (hfree : ∀ x ∈ free, mg x = none) (hglo : ∀ x d, glo.lookup x = some d → ∃ u v, mg x = some u ∧ RelV v u ∧ flatD d = some v) (hchk : D.all (dfB D free glo) = true) :
    ∀ n i d, D[i]? = some d → FnOk P w K mg base CX0 n (f i) (fd i) d.ps (spOf K d.ps.length (run (D.map Df.fnT) wf n i)) := by
  intro n
  induction n with
  | zero => exact fun i d hd => fn_zero
  | succ n ih =>
    intro i d hd
    obtain ⟨h1, h2, h3, h4⟩ := hF i d hd
    have hc := List.all_eq_true.mp hchk d (List.mem_of_getElem? hd)
    unfold dfB at hc
    simp only [Bool.and_eq_true, decide_eq_true_eq] at hc
    obtain ⟨⟨c1, c2⟩, c3⟩ := hc
    have S := sc_ok c1
    refine fn_succ (Fb := d.fnT) h1 S (by rw [List.getElem?_map, hd]; rfl) rfl rfl fun X e1 e2 e3 e4 e5 e6 e7 e8 e9 e10 hr => ?_
    subst e1 e2 e3 e4 e5
    refine soundB (C := csOf D free glo d.N) (call := run (D.map Df.fnT) wf n) wf d.fn d.body d.scope (fun _ => true) X ?_ c3
    refine ⟨e6, S.kind, e7, S.nd, e8, e9, funext e10, hfree, hglo, fun j x ps hj => ?_, ?_⟩
    · have hj' : (D.map fun d => (d.name, d.ps))[j]? = some (x, ps) := hj
      rw [List.getElem?_map] at hj'
      obtain ⟨d', hd', e⟩ := Option.map_eq_some_iff.mp hj'
      cases e
      obtain ⟨k1, k2, k3, k4⟩ := hF j d' hd'
      exact ⟨f j, fd j, n, k2, k1.kp, k3, k4, ih j d' hd', hr⟩
    · have := hr.un
      omega
/-- no defaults: every parameter is named -/
theorem binds_kw {K : PySem.W.Frag} {x qual : Str} {params : Arguments} {body : List Stmt} {scope : Scope} {kws : List (Str × V)} {f : Addr} {fd : FuncData} {ps : List Str} (F : FunD K x qual params body scope [] kws f fd)
    (h : ∀ (kV doc pm : Value) (an : Option Addr) (cdv ct : Value) (ws : List Value), ws.length = ps.length → bindArgs (PySem.W.fnOf x qual params body scope .none kV doc pm an cdv ct) ⟨[], ps.zip ws⟩ = pure (ps.zip ws)) (s : Shared) (ws : List Value) (hl : ws.length = ps.length) : BindsTo s fd ⟨[], ps.zip ws⟩ (ps.zip ws) := by
  obtain ⟨oc, od, dV, kV, doc, pm, an, cdv, ct, osl, rfl, lk, hcd, hD, hK⟩ := F.ex
  rcases hD with ⟨_, rfl⟩ | ⟨e, _⟩
  · exact .of_eq (h kV doc pm an cdv ct ws hl)
  · exact absurd rfl e
end Ra


set_option Elab.async false
set_option linter.all false
set_option autoImplicit false
set_option maxRecDepth 100000
/-! the end: a head that knows that no list is its own; the script as data -/
namespace Ra
open PySem PySem.Spec PyProof.Rows L2
def notList (o : Obj) : Bool := match o.cls with
  | .type c => !(c == "list")
  | _ => true
def noL (K : PySem.W.Frag) : Bool := K.all fun p => notList p.2
theorem noL_ok {K : PySem.W.Frag} (h : noL K = true) {a : Addr} {o : Obj} (e : K.lookup a = some o) : o.cls ≠ .type "list" := by
  intro hc
  have hm : ∃ b, (b, o) ∈ K := by
    clear h
    induction K with
    | nil => cases e
    | cons p r ih =>
      obtain ⟨b, x⟩ := p
      rw [List.lookup_cons] at e
      split at e
      · cases e; exact ⟨b, List.mem_cons_self⟩
      · obtain ⟨c, h⟩ := ih e
        exact ⟨c, List.mem_cons_of_mem _ h⟩
  obtain ⟨b, hm⟩ := hm
  have z := List.all_eq_true.mp h _ hm
  unfold notList at z
  rw [hc] at z
  simp at z
def obN (n : Nat) (fa : List He.Fa) (fn : List He.DefD) (g : Addr → Option Obj) : He.AlD × Bool := (He.obsDG n fa fn g, noL (He.frG g (He.asD g n)))
def hookN (n : Nat) (fa : List He.Fa) (fn : List He.DefD) : PySem.W.Hook where
  α := He.AlD × Bool
  obs := fun s => obN n fa fn s.heap.get?
  val := fun _ => (He.valD fn, true)
  says := fun _ h => ∃ K : PySem.W.Frag, K.In h ∧ He.SaysD fa fn K ∧ noL K = true
  of := fun _ _ e => ⟨_, He.frG_in, congrArg Prod.fst e, congrArg Prod.snd e⟩
  keeps := fun _ _ _ ⟨K, hK, c⟩ k => ⟨K, PySem.W.Frag.In.keeps hK k, c⟩
theorem obN_eq {n : Nat} {fa : List He.Fa} {fn : List He.DefD} {g : Addr → Option Obj} {s : Shared} (h : ∀ a, g a = s.heap.get? a) : obN n fa fn g = (hookN n fa fn).obs s := by
  rw [show g = s.heap.get? from funext h]
  rfl
/-- the sizes of what is tracked -/
def SzH (H : Hp) : Prop := ∀ a xs, (H a = some (.lst xs) ∨ H a = some (.tup xs) ∨ (∃ o, H a = some (.frz o (.lst xs))) ∨ ∃ o, H a = some (.frz o (.tup xs))) → xs.length ≤ sizeLine
theorem szH {P : Program} {w : World} {H : Hp} {h : Heap} (x : HOk P w H h) : SzH H := by
  intro a xs e
  rcases e with e | e | ⟨o, e⟩ | ⟨o, e⟩
  · exact (x a _ e).1
  · exact (x a _ e).1
  · exact (x a _ e).2.1
  · exact (x a _ e).2.1
theorem fn_sized {P : Program} {w : World} {K : PySem.W.Frag} {mg : Str → Option Value} {base : Heap} {CX : CXT} {k : Nat} {f : Addr} {fd : FuncData} {ps : List Str} {sp : Sp} (F : FnOk P w K mg base CX k f fd ps sp) :
    FnOk P w K mg base CX k f fd ps fun vs H Q E => vs.length = ps.length ∧ (SzH H → sp vs H Q E) :=
  ⟨fun vs H Q E h => h.1, fun A outer s H args us vs Q E hr he hb hv h => F.run A outer s H args us vs Q E hr he hb hv (h.2 (szH he.hok))⟩
theorem ints_all {K : PySem.W.Frag} {F : Addr → Prop} {H : Hp} : ∀ ns : List Int, RpAll K F H (ns.map V.int) (ns.map PyData.int)
  | [] => .nil
  | n :: r => .cons (.int n) (ints_all r)
theorem sp_end {K : PySem.W.Frag} {c : List Val → Mem → Res Val} {H : Hp} {a : Addr} {ns : List Int} (hN : noL K = true) (hO : Only H) (hz : SzH H) (hS : SqL K H a (ns.map V.int))
    (h : ∃ m, c [.d (.list (ns.map PyData.int))] [] = .ok (.d (.bool true)) m) : spOf K 1 c [.ref a] H (fun v _ => v = .bl true) fun _ _ _ => False := by
  obtain ⟨m, h⟩ := h
  have hR : ∃ o, H a = some (.frz o (.lst (ns.map V.int))) := by
    rcases hS with (e | e) | ⟨o, _, _, e, e2, _⟩
    · rcases hO a with z | ⟨_, _, z⟩ <;> rw [z] at e <;> cases e
    · exact e
    · exact absurd e2 (noL_ok hN e)
  refine ⟨rfl, [.d (.list (ns.map PyData.int))], [], ⟨fun _ => False, [], fun _ => False⟩, ?_, .cons (.lst (.inr hR) (ints_all ns)) (fun _ h => by cases h) .nil, ?_⟩
  · exact ⟨fun _ h => h.elim, rfl, .nil, fun k c b e => by simp at e, hz, fun _ h => h.elim, fun _ h => h.elim, fun _ h => h.elim⟩
  · rw [h]
    intro g' H' e s
    show Ans K _ _ _ _ _
    intro z hz
    cases hz
    rfl
/-! all facts of the head at once -/
def fnOfD (D : List Df) : List He.DefD := D.map fun d => ⟨(d.name, none), d.name, d.name, d.params, d.body, d.scope, [], []⟩
def gloFa : Str × PyData → He.Fa
  | (x, .str z) => .str x z
  | (x, .int i) => .int x i
  | (x, _) => .free x
def faOfD (D : List Df) (free : List Str) (glo : List (Str × PyData)) : List He.Fa := D.map (fun d => .glo d.name) ++ (free.map .free ++ glo.map gloFa)
/-- how arguments are bound -/
def BndD (d : Df) : Prop := (∀ (x qual : Str) (body : List Stmt) (scope : Scope) (kV doc pm : Value) (an : Option Addr) (cdv ct : Value) (us : List Value), us.length = d.ps.length →
    bindArgs (PySem.W.fnOf x qual d.params body scope .none kV doc pm an cdv ct) ⟨us, []⟩ = pure (d.ps.zip us)) ∧
  (∀ (x qual : Str) (body : List Stmt) (scope : Scope) (kV doc pm : Value) (an : Option Addr) (cdv ct : Value) (us : List Value), us.length = d.ps.length →
    bindArgs (PySem.W.fnOf x qual d.params body scope .none kV doc pm an cdv ct) ⟨[], d.ps.zip us⟩ = pure (d.ps.zip us))
def gloC : List (Str × PyData) → Bool
  | [] => true
  | (_, .str z) :: r => sOk z && gloC r
  | _ => false
theorem gloC_ok : ∀ {glo : List (Str × PyData)}, gloC glo = true → ∀ {x : Str} {d : PyData}, glo.lookup x = some d → ∃ z, d = .str z ∧ sOk z = true ∧ (x, d) ∈ glo
  | [], _, _, _, e => by cases e
  | (y, .str z) :: r, h, x, d, e => by
    rw [List.lookup_cons] at e
    split at e
    · rename_i q
      cases e
      exact ⟨z, rfl, (Bool.and_eq_true_iff.mp h).1, by rw [eq_of_beq q]; exact List.mem_cons_self⟩
    · obtain ⟨z', h1, h0, h2⟩ := gloC_ok (glo := r) (Bool.and_eq_true_iff.mp h).2 e
      exact ⟨z', h1, h0, List.mem_cons_of_mem _ h2⟩
  | (y, .none) :: r, h, _, _, _ => by cases h
  | (y, .bool _) :: r, h, _, _, _ => by cases h
  | (y, .int _) :: r, h, _, _, _ => by cases h
  | (y, .list _) :: r, h, _, _, _ => by cases h
  | (y, .tuple _) :: r, h, _, _, _ => by cases h
  | (y, .dict _) :: r, h, _, _, _ => by cases h
theorem head_ok {P : Program} {w : World} {K : PySem.W.Frag} {h : Heap} {mg : Str → Option Value} {D : List Df} {free : List Str} {glo : List (Str × PyData)} (wf n : Nat) (X : K.In h) (G : h.Ns mainGlobals mg) (c : He.SaysD (faOfD D free glo) (fnOfD D) K)
    (hB : ∀ d ∈ D, BndD d) (hg : gloC glo = true) (hchk : D.all (dfB D free glo) = true) {l : Nat} {dl : Df} (hl : D[l]? = some dl) {a : Addr} (ha : mg dl.name = some (.ref a)) {x : Str} (hx : dl.ps = [x]) :
    ∃ fd : FuncData, (∀ (s : Shared) (v : Value), BindsTo s fd ⟨[v], []⟩ [(x, v)]) ∧ ∀ base : Heap, FnOk P w K mg base CX0 n a fd [x] fun vs H Q E => vs.length = 1 ∧ (SzH H → spOf K 1 (run (D.map Df.fnT) wf n l) vs H Q E) := by
  have hd : ∀ (i : Nat) (d : Df), D[i]? = some d → ∃ fd, FunD K d.name d.name d.params d.body d.scope [] [] (He.ga K d.name) fd := by
    intro i d e
    obtain ⟨fd, F⟩ := c.def_ i (d := ⟨(d.name, none), d.name, d.name, d.params, d.body, d.scope, [], []⟩) (by unfold fnOfD; rw [List.getElem?_map, e]; rfl)
    exact ⟨fd, F⟩
  have hm : ∀ d ∈ D, mg d.name = some (.ref (He.ga K d.name)) := fun d e => He.glo_ok X G (c.facts (f := .glo d.name) (List.mem_append_left _ (List.mem_map_of_mem e)))
  let f : Nat → Addr := fun i => match D[i]? with
    | some d => He.ga K d.name
    | none => 0
  have hf : ∀ (i : Nat) (d : Df), D[i]? = some d → f i = He.ga K d.name := fun i d e => by
    show (match D[i]? with | some d => He.ga K d.name | none => 0) = _
    rw [e]
  classical
  have hex : ∀ i : Nat, ∃ fd : FuncData, ∀ (d : Df), D[i]? = some d → FunD K d.name d.name d.params d.body d.scope [] [] (f i) fd := by
    intro i
    cases e : D[i]? with
    | none => 
      obtain ⟨fd, _⟩ := hd l dl hl
      exact ⟨fd, fun d z => by cases z⟩
    | some d =>
      obtain ⟨fd, F⟩ := hd i d e
      exact ⟨fd, fun d' z => by cases z; rw [hf i d e]; exact F⟩
  let fd : Nat → FuncData := fun i => Classical.choose (hex i)
  have hfd : ∀ (i : Nat) (d : Df), D[i]? = some d → FunD K d.name d.name d.params d.body d.scope [] [] (f i) (fd i) := fun i => Classical.choose_spec (hex i)
  have key : ∀ base : Heap, FnOk P w K mg base CX0 n (f l) (fd l) dl.ps (spOf K dl.ps.length (run (D.map Df.fnT) wf n l)) := by
    intro base
    refine tab_ok (D := D) (free := free) (glo := glo) (wf := wf) f fd (fun i d e => ?_) (fun x e => ?_) (fun x d e => ?_) hchk n l dl hl
    · have F := hfd i d e
      have B := hB d (List.mem_of_getElem? e)
      exact ⟨F, by rw [hf i d e]; exact hm d (List.mem_of_getElem? e), F.bindsN fun kV doc pm an cdv ct us hu => B.1 _ _ _ _ kV doc pm an cdv ct us hu, binds_kw F fun kV doc pm an cdv ct us hu => B.2 _ _ _ _ kV doc pm an cdv ct us hu⟩
    · exact He.free_ok X G (c.facts (f := .free x) (List.mem_append_right _ (List.mem_append_left _ (List.mem_map_of_mem e))))
    · obtain ⟨z, rfl, ho, hz⟩ := gloC_ok hg e
      obtain ⟨t, ht⟩ := He.str_ok X G (x := x) (z := z) (c.facts (f := .str x z) (List.mem_append_right _ (List.mem_append_right _ (List.mem_map_of_mem (f := gloFa) hz))))
      exact ⟨_, .str z, ht, ⟨_, rfl⟩, by simp [flatD, ho]⟩
  have e := ha.symm.trans (hm dl (List.mem_of_getElem? hl))
  rw [← hf l dl hl] at e
  cases e
  refine ⟨fd l, fun s v => ?_, fun base => ?_⟩
  · have F := hfd l dl hl
    have B := hB dl (List.mem_of_getElem? hl)
    have z := FunD.bindsA (ps := dl.ps) F (fun kV doc pm an cdv ct us hu => B.1 _ _ _ _ kV doc pm an cdv ct us hu) s [v] (by rw [hx]; rfl)
    rw [hx] at z
    exact z
  · have k := fn_sized (key base)
    rw [hx] at k
    exact k
end Ra


set_option Elab.async false
set_option linter.all false
set_option maxRecDepth 100000
set_option maxHeartbeats 0
namespace K0
open PySem PySem.Spec PyProof.Rows L2 Ra
def top (i : Nat) : Stmt := PySem.Challenge.pw_reportalike_k00_steps_plans_counts_or_no.main.body.getD i (.Pass ⟨0, 0, 0, 0⟩)
def b_is_number : List S := [(.ret (.band [(.isi (.var 0) [.int]), (.not (.isi (.var 0) [.bool]))]))]
def d_is_number : Df := ⟨"is_number", ["thing"], ["thing"], defArgs (top 2), defBody (top 2), defScope (top 2), b_is_number⟩
def b_is_name : List S := [(.ret (.band [(.isi (.var 0) [.str]), (.chain .le .le (.cst (.int 1)) (.bi .len [(.var 0)]) (.cst (.int 8))), (.bi .all [(.lc [1] (.nm 1) .seq [(.var 0)] [] (.cmp .isin (.var 1) (.glo (.str "abcdefghijklmnopqrstuvwxyz"))))])]))]
def d_is_name : Df := ⟨"is_name", ["thing"], ["thing", "letter"], defArgs (top 3), defBody (top 3), defScope (top 3), b_is_name⟩
def b_rises : List S := [(.ret (.bi .all [(.lc [1, 2] (.tp [(.nm 1), (.nm 2)]) .zip [(.var 0), (.slL (.var 0) (.cst (.int 1)))] [] (.cmp .lt (.var 1) (.var 2)))]))]
def d_rises : Df := ⟨"rises", ["thing"], ["thing", "one", "other"], defArgs (top 4), defBody (top 4), defScope (top 4), b_rises⟩
def b_is_condition : List S := [(.iff (.bor [(.not (.isi (.var 0) [.tuple])), (.not (.bi .all [(.lc [3] (.nm 3) .seq [(.var 0)] [] (.band [(.isi (.var 3) [.tuple]), (.cmp .eq (.bi .len [(.var 3)]) (.cst (.int 2)))]))]))]) [(.ret (.cst (.bool false)))] []), (.iff (.not (.bi .all [(.lc [1, 2] (.tp [(.nm 1), (.nm 2)]) .seq [(.var 0)] [] (.band [(.call 1 [(.var 1)]), (.call 0 [(.var 2)]), (.chain .le .le (.cst (.int 0)) (.var 2) (.cst (.int 1)))]))])) [(.ret (.cst (.bool false)))] []), (.ret (.call 2 [(.lc [1, 2] (.tp [(.nm 1), (.nm 2)]) .seq [(.var 0)] [] (.var 1))]))]
def d_is_condition : Df := ⟨"is_condition", ["thing"], ["thing", "flag", "on", "own"], defArgs (top 6), defBody (top 6), defScope (top 6), b_is_condition⟩
def b_is_step : List S := [(.iff (.bor [(.not (.isi (.var 0) [.tuple])), (.cmp .ne (.bi .len [(.var 0)]) (.cst (.int 5)))]) [(.ret (.cst (.bool false)))] []), (.setT (.tp [(.nm 1), (.nm 2), (.nm 3), (.nm 4), (.nm 5)]) (.var 0)), (.iff (.bor [(.not (.call 1 [(.var 1)])), (.not (.call 1 [(.var 2)])), (.not (.call 1 [(.var 4)])), (.not (.call 3 [(.var 5)]))]) [(.ret (.cst (.bool false)))] []), (.ret (.band [(.isi (.var 3) [.tuple]), (.bi .all [(.lc [6] (.nm 6) .seq [(.var 3)] [] (.call 1 [(.var 6)]))])]))]
def d_is_step : Df := ⟨"is_step", ["thing"], ["thing", "name", "method", "reads", "sheet", "condition", "own"], defArgs (top 7), defBody (top 7), defScope (top 7), b_is_step⟩
def b_is_plan : List S := [(.iff (.bor [(.not (.isi (.var 0) [.tuple])), (.not (.bi .all [(.lc [2] (.nm 2) .seq [(.var 0)] [] (.call 4 [(.var 2)]))]))]) [(.ret (.cst (.bool false)))] []), (.ret (.call 2 [(.lc [1] (.nm 1) .seq [(.var 0)] [] (.idx (.var 1) (.cst (.int 0))))]))]
def d_is_plan : Df := ⟨"is_plan", ["thing"], ["thing", "step", "own"], defArgs (top 8), defBody (top 8), defScope (top 8), b_is_plan⟩
def b_is_counts : List S := [(.iff (.bor [(.not (.isi (.var 0) [.tuple])), (.not (.bi .all [(.lc [1] (.nm 1) .seq [(.var 0)] [] (.band [(.isi (.var 1) [.tuple]), (.cmp .eq (.bi .len [(.var 1)]) (.cst (.int 2)))]))]))]) [(.ret (.cst (.bool false)))] []), (.ret (.band [(.bi .all [(.lc [2, 3] (.tp [(.nm 2), (.nm 3)]) .seq [(.var 0)] [] (.band [(.call 1 [(.var 2)]), (.call 1 [(.var 3)])]))]), (.call 2 [(.lc [1] (.nm 1) .seq [(.var 0)] [] (.idx (.var 1) (.cst (.int 0))))])]))]
def d_is_counts : Df := ⟨"is_counts", ["thing"], ["thing", "own", "sheet", "mark"], defArgs (top 10), defBody (top 10), defScope (top 10), b_is_counts⟩
def b__law_box : List S := [(.set 2 false (.ite (.cmp .lt (.var 1) (.bi .len [(.var 0)])) (.idx (.var 0) (.var 1)) (.cst (.int 0)))), (.ret (.lst [(.op .mul (.bi .abs [(.var 2)]) (.bi .int [(.cmp .ge (.bi .abs [(.var 2)]) (.op .pow (.cst (.int 10)) (.cst (.int 18))))])), (.op .add (.op .add (.op .mod (.bi .int [(.var 2)]) (.cst (.int 2305843009213693951))) (.op .mul (.cst (.int 39373)) (.var 1))) (.cst (.int 831))), (.cst (.int 0))]))]
def d__law_box : Df := ⟨"_law_box", ["_law_script", "_law_k"], ["_law_script", "_law_k", "_law_great_so"], defArgs (top 12), defBody (top 12), defScope (top 12), b__law_box⟩
def b__law_take : List S := [(.iff (.cmp .gt (.idx (.var 0) (.cst (.int 0))) (.cst (.int 0))) [(.set 5 false (.op .mod (.bi .int [(.idx (.var 0) (.cst (.int 0)))]) (.var 1))), (.put 0 (.cst (.int 0)) (.op .fdiv (.idx (.var 0) (.cst (.int 0))) (.var 1))), (.ret (.var 5))] []), (.put 0 (.cst (.int 2)) (.op .add (.idx (.var 0) (.cst (.int 2))) (.cst (.int 1)))), (.set 2 false (.op .mod (.bi .int [(.op .mul (.op .add (.idx (.var 0) (.cst (.int 1))) (.op .mul (.cst (.int 48271)) (.idx (.var 0) (.cst (.int 2))))) (.op .add (.cst (.int 39373)) (.idx (.var 0) (.cst (.int 2)))))]) (.cst (.int 2147483647)))), (.set 3 false (.op .add (.op .mod (.bi .int [(.var 2)]) (.cst (.int 40009))) (.cst (.int 7)))), (.set 4 false (.op .mod (.bi .int [(.op .mul (.op .add (.op .add (.var 2) (.idx (.var 0) (.cst (.int 2)))) (.op .fdiv (.idx (.var 0) (.cst (.int 1))) (.cst (.int 1000003)))) (.var 3))]) (.cst (.int 2147483629)))), (.ret (.op .mod (.bi .int [(.op .fdiv (.op .mod (.bi .int [(.op .add (.op .mul (.var 4) (.cst (.int 48271))) (.var 2))]) (.cst (.int 2147483587))) (.cst (.int 64)))]) (.var 1)))]
def d__law_take : Df := ⟨"_law_take", ["_law_tin", "_law_top_so"], ["_law_tin", "_law_top_so", "_law_once", "_law_far", "_law_twice", "_law_digit_so"], defArgs (top 13), defBody (top 13), defScope (top 13), b__law_take⟩
def b__law_cells : List S := [(.set 2 true (.bor [(.bi .list [(.slU (.var 0) (.var 1))]), (.lst [(.cst (.int 0))])])), (.for (.tp [(.nm 3), (.nm 4)]) .enum [(.slLU (.var 0) (.var 1) (.cst (.int 63)))] [(.set 5 false (.op .mod (.bi .int [(.var 3)]) (.var 1))), (.put 2 (.var 5) (.op .add (.idx (.var 2) (.var 5)) (.op .mul (.var 4) (.op .add (.var 3) (.cst (.int 2))))))]), (.ret (.var 2))]
def d__law_cells : Df := ⟨"_law_cells", ["_law_script", "_law_most"], ["_law_script", "_law_most", "_law_cells_here", "_law_k", "_law_great_so", "_law_at_so"], defArgs (top 14), defBody (top 14), defScope (top 14), b__law_cells⟩
def b__law_of : List S := [(.ret (.idx (.var 1) (.call 8 [(.var 0), (.bi .len [(.var 1)])])))]
def d__law_of : Df := ⟨"_law_of", ["_law_tin", "_law_lot"], ["_law_tin", "_law_lot"], defArgs (top 15), defBody (top 15), defScope (top 15), b__law_of⟩
def b__law_pick : List S := [(.par [(4, true), (5, true)] [(.bi .list [(.var 1)]), (.lst [])]), (.for (.nm 3) .range [(.bi .min2 [(.var 2), (.bi .len [(.var 4)])])] [(.app 5 (.pop 4 (.call 8 [(.var 0), (.bi .len [(.var 4)])])))]), (.ret (.var 5))]
def d__law_pick : Df := ⟨"_law_pick", ["_law_tin", "_law_pool", "_law_size_so"], ["_law_tin", "_law_pool", "_law_size_so", "_law_turn", "_law_rest", "_law_lot"], defArgs (top 16), defBody (top 16), defScope (top 16), b__law_pick⟩
def b__law_same : List S := [(.iff (.isi (.var 1) [.list, .tuple]) [(.iff (.bor [(.cmp .ne (.isi (.var 0) [.list]) (.isi (.var 1) [.list])), (.cmp .ne (.isi (.var 0) [.tuple]) (.isi (.var 1) [.tuple]))]) [(.ret (.cst (.bool false)))] []), (.ret (.band [(.cmp .eq (.bi .len [(.var 0)]) (.bi .len [(.var 1)])), (.bi .all [(.lc [3, 4] (.tp [(.nm 3), (.nm 4)]) .zip [(.var 0), (.var 1)] [] (.call 12 [(.var 3), (.var 4)]))])]))] []), (.iff (.isi (.var 1) [.dict]) [(.iff (.bor [(.not (.isi (.var 0) [.dict])), (.cmp .ne (.bi .sorted [(.var 0)]) (.bi .sorted [(.var 1)]))]) [(.ret (.cst (.bool false)))] []), (.ret (.bi .all [(.lc [2] (.nm 2) .seq [(.var 1)] [] (.call 12 [(.idx (.var 0) (.var 2)), (.idx (.var 1) (.var 2))]))]))] []), (.iff (.bor [(.isN (.var 1)), (.isi (.var 1) [.bool, .str])]) [(.ret (.band [(.cmp .eq (.var 0) (.var 1)), (.cmp .eq (.isi (.var 0) [.bool]) (.isi (.var 1) [.bool])), (.cmp .eq (.isN (.var 0)) (.isN (.var 1)))]))] []), (.ret (.band [(.isi (.var 0) [.int]), (.not (.isi (.var 0) [.bool])), (.cmp .eq (.var 0) (.var 1))]))]
def d__law_same : Df := ⟨"_law_same", ["_law_got", "_law_due"], ["_law_got", "_law_due", "_law_lot_so", "_law_mine", "_law_its"], defArgs (top 17), defBody (top 17), defScope (top 17), b__law_same⟩
def b__law_form : List S := [(.par [(4, true), (5, true)] [(.lst [(.cst (.str "sa")), (.cst (.str "sb")), (.cst (.str "sc"))]), (.lst [])]), (.par [(6, false), (7, false)] [(.call 11 [(.var 0), (.bi .list [(.cst (.str "abcdefgh"))]), (.var 1)]), (.call 11 [(.var 0), (.bi .list [(.cst (.str "abcdefgh"))]), (.var 1)])]), (.for (.nm 3) .range [(.op .add (.cst (.int 1)) (.call 8 [(.var 0), (.var 1)]))] [(.par [(9, false), (10, false)] [(.op .add (.cst (.str "p")) (.idx (.var 6) (.var 3))), (.idx (.var 7) (.var 3))]), (.set 8 false (.bi .tuple [(.lc [16] (.nm 16) .range [(.call 8 [(.var 0), (.cst (.int 4))])] [] (.call 10 [(.var 0), (.var 4)]))])), (.par [(11, false), (12, false)] [(.call 10 [(.var 0), (.lst [(.cst (.str "ma")), (.cst (.str "mb")), (.cst (.str "mc"))])]), (.ite (.cmp .ne (.var 2) (.tup [])) (.call 8 [(.var 0), (.cst (.int 4))]) (.cst (.int 3)))]), (.iff (.band [(.cmp .eq (.var 12) (.cst (.int 0))), (.cmp .lt (.bi .len [(.var 5)]) (.op .sub (.var 1) (.cst (.int 1))))]) [(.set 13 false (.call 10 [(.var 0), (.var 2)])), (.set 14 false (.bi .tuple [(.lc [16] (.nm 16) .range [(.call 8 [(.var 0), (.cst (.int 3))])] [] (.call 10 [(.var 0), (.var 4)]))])), (.app 5 (.tup [(.op .add (.cst (.str "t")) (.var 10)), (.var 11), (.var 8), (.var 9), (.tup [(.tup [(.var 13), (.cst (.int 0))])])])), (.app 5 (.tup [(.op .add (.cst (.str "u")) (.var 10)), (.call 10 [(.var 0), (.lst [(.cst (.str "ma")), (.cst (.str "mb"))])]), (.var 14), (.var 9), (.tup [(.tup [(.var 13), (.cst (.int 1))])])])), (.app 4 (.var 9))] [(.iff (.cmp .lt (.bi .len [(.var 5)]) (.var 1)) [(.set 15 false (.ite (.cmp .eq (.var 12) (.cst (.int 1))) (.tup [(.tup [(.call 10 [(.var 0), (.var 2)]), (.call 8 [(.var 0), (.cst (.int 2))])])]) (.tup []))), (.app 5 (.tup [(.op .add (.cst (.str "t")) (.var 10)), (.var 11), (.var 8), (.var 9), (.var 15)])), (.app 4 (.var 9))] [])])]), (.ret (.bi .tuple [(.bi .sorted [(.var 5)])]))]
def d__law_form : Df := ⟨"_law_form", ["_law_tin", "_law_many", "_law_flags_so"], ["_law_tin", "_law_many", "_law_flags_so", "_law_k", "_law_ahead", "_law_found", "_law_pages", "_law_letters", "_law_reads_so", "_law_page", "_law_letter", "_law_tool", "_law_sort", "_law_flag", "_law_twice", "_law_on_so", "_law_lap"], defArgs (top 18), defBody (top 18), defScope (top 18), b__law_form⟩
def b__law_on : List S := [(.par [(3, true), (4, false)] [(.lst []), (.lst [])]), (.for (.nm 2) .seq [(.var 0)] [(.iff (.cmp .eq (.lc [8] (.nm 8) .seq [(.idx (.var 2) (.cst (.int 4)))] [(.cmp .ne (.cmp .isin (.idx (.var 8) (.cst (.int 0))) (.var 1)) (.cmp .eq (.idx (.var 8) (.cst (.int 1))) (.cst (.int 1))))] (.var 8)) (.lst [])) [(.app 3 (.var 2))] [])]), (.while (.cmp .ne (.var 3) (.lst [])) [(.set 5 false (.lc [7] (.nm 7) .seq [(.var 3)] [] (.idx (.var 7) (.cst (.int 3))))), (.set 6 false (.lc [7] (.nm 7) .seq [(.var 3)] [(.cmp .eq (.lc [9] (.nm 9) .seq [(.idx (.var 7) (.cst (.int 2)))] [(.cmp .isin (.var 9) (.var 5))] (.var 9)) (.lst []))] (.var 7))), (.set 4 false (.op .add (.var 4) (.var 6))), (.set 3 true (.ite (.cmp .ne (.var 6) (.lst [])) (.lc [7] (.nm 7) .seq [(.var 3)] [(.cmp .notin (.var 7) (.var 6))] (.var 7)) (.lst [])))]), (.ret (.var 4))]
def d__law_on : Df := ⟨"_law_on", ["_law_form_here", "_law_flags_so"], ["_law_form_here", "_law_flags_so", "_law_step_so", "_law_left_so", "_law_found", "_law_waits_so", "_law_ready", "_law_own", "_law_pair", "_law_page"], defArgs (top 19), defBody (top 19), defScope (top 19), b__law_on⟩
def b__law_stock : List S := [(.set 4 false (.lc [6] (.nm 6) .seq [(.call 14 [(.var 1), (.var 2)])] [] (.idx (.var 6) (.cst (.int 3))))), (.set 5 false (.lst [])), (.for (.nm 6) .seq [(.call 14 [(.var 1), (.var 2)])] [(.set 5 false (.op .add (.var 5) (.lc [8] (.nm 8) .seq [(.idx (.var 6) (.cst (.int 2)))] [(.cmp .notin (.var 8) (.var 4))] (.var 8))))]), (.set 7 false (.lc [8] (.nm 8) .seq [(.var 4)] [(.cmp .eq (.call 8 [(.var 0), (.cst (.int 5))]) (.cst (.int 0)))] (.var 8))), (.ret (.bi .tuple [(.lc [8] (.nm 8) .seq [(.bi .sortedset [(.op .add (.var 5) (.var 7))])] [] (.tup [(.var 8), (.call 10 [(.var 0), (.var 3)])]))]))]
def d__law_stock : Df := ⟨"_law_stock", ["_law_tin", "_law_form_here", "_law_flags_so", "_law_marks"], ["_law_tin", "_law_form_here", "_law_flags_so", "_law_marks", "_law_made", "_law_need_so", "_law_own", "_law_more", "_law_page"], defArgs (top 20), defBody (top 20), defScope (top 20), b__law_stock⟩
def b__law_is_tag : List S := [(.iff (.bor [(.not (.isi (.var 0) [.str])), (.cmp .lt (.bi .len [(.var 0)]) (.cst (.int 1))), (.cmp .gt (.bi .len [(.var 0)]) (.cst (.int 8)))]) [(.ret (.cst (.bool false)))] []), (.ret (.cmp .eq (.lc [1] (.nm 1) .seq [(.var 0)] [(.cmp .notin (.var 1) (.cst (.str "abcdefghijklmnopqrstuvwxyz")))] (.var 1)) (.lst [])))]
def d__law_is_tag : Df := ⟨"_law_is_tag", ["_law_matter"], ["_law_matter", "_law_sign"], defArgs (top 21), defBody (top 21), defScope (top 21), b__law_is_tag⟩
def b__law_rises : List S := [(.ret (.cmp .eq (.var 0) (.bi .sortedset [(.var 0)])))]
def d__law_rises : Df := ⟨"_law_rises", ["_law_lot"], ["_law_lot"], defArgs (top 22), defBody (top 22), defScope (top 22), b__law_rises⟩
def b__law_are_pairs : List S := [(.ret (.band [(.isi (.var 0) [.tuple]), (.cmp .eq (.lc [1] (.nm 1) .seq [(.var 0)] [(.bor [(.not (.isi (.var 1) [.tuple])), (.cmp .ne (.bi .len [(.var 1)]) (.cst (.int 2)))])] (.var 1)) (.lst []))]))]
def d__law_are_pairs : Df := ⟨"_law_are_pairs", ["_law_matter"], ["_law_matter", "_law_own"], defArgs (top 23), defBody (top 23), defScope (top 23), b__law_are_pairs⟩
def b__law_is_on : List S := [(.iff (.bor [(.not (.call 18 [(.var 0)])), (.cmp .ne (.lc [3] (.nm 3) .seq [(.var 0)] [(.not (.call 16 [(.idx (.var 3) (.cst (.int 0)))]))] (.var 3)) (.lst []))]) [(.ret (.cst (.bool false)))] []), (.set 1 false (.lc [3] (.nm 3) .seq [(.var 0)] [(.bor [(.not (.isi (.idx (.var 3) (.cst (.int 1))) [.int])), (.isi (.idx (.var 3) (.cst (.int 1))) [.bool])])] (.idx (.var 3) (.cst (.int 1))))), (.set 2 false (.lc [3] (.nm 3) .seq [(.var 0)] [(.cmp .notin (.idx (.var 3) (.cst (.int 1))) (.tup [(.cst (.int 0)), (.cst (.int 1))]))] (.idx (.var 3) (.cst (.int 1))))), (.ret (.band [(.cmp .eq (.var 1) (.lst [])), (.cmp .eq (.var 2) (.lst [])), (.call 17 [(.lc [3] (.nm 3) .seq [(.var 0)] [] (.idx (.var 3) (.cst (.int 0))))])]))]
def d__law_is_on : Df := ⟨"_law_is_on", ["_law_matter"], ["_law_matter", "_law_bits", "_law_odd", "_law_own"], defArgs (top 24), defBody (top 24), defScope (top 24), b__law_is_on⟩
def b__law_is_bit : List S := [(.iff (.bor [(.not (.isi (.var 0) [.tuple])), (.cmp .ne (.bi .len [(.var 0)]) (.cst (.int 5))), (.not (.isi (.idx (.var 0) (.cst (.int 2))) [.tuple]))]) [(.ret (.cst (.bool false)))] []), (.iff (.cmp .ne (.lc [1] (.nm 1) .seq [(.op .add (.tup [(.idx (.var 0) (.cst (.int 0))), (.idx (.var 0) (.cst (.int 1))), (.idx (.var 0) (.cst (.int 3)))]) (.idx (.var 0) (.cst (.int 2))))] [(.not (.call 16 [(.var 1)]))] (.var 1)) (.lst [])) [(.ret (.cst (.bool false)))] []), (.ret (.call 19 [(.idx (.var 0) (.cst (.int 4)))]))]
def d__law_is_bit : Df := ⟨"_law_is_bit", ["_law_matter"], ["_law_matter", "_law_own"], defArgs (top 25), defBody (top 25), defScope (top 25), b__law_is_bit⟩
def b__law_is_form : List S := [(.iff (.bor [(.not (.isi (.var 0) [.tuple])), (.cmp .ne (.lc [1] (.nm 1) .seq [(.var 0)] [(.not (.call 20 [(.var 1)]))] (.var 1)) (.lst []))]) [(.ret (.cst (.bool false)))] []), (.ret (.call 17 [(.lc [1] (.nm 1) .seq [(.var 0)] [] (.idx (.var 1) (.cst (.int 0))))]))]
def d__law_is_form : Df := ⟨"_law_is_form", ["_law_matter"], ["_law_matter", "_law_own"], defArgs (top 26), defBody (top 26), defScope (top 26), b__law_is_form⟩
def b__law_is_stock : List S := [(.iff (.not (.call 18 [(.var 0)])) [(.ret (.cst (.bool false)))] []), (.iff (.cmp .ne (.lc [1] (.nm 1) .seq [(.var 0)] [(.bor [(.not (.call 16 [(.idx (.var 1) (.cst (.int 0)))])), (.not (.call 16 [(.idx (.var 1) (.cst (.int 1)))]))])] (.var 1)) (.lst [])) [(.ret (.cst (.bool false)))] []), (.ret (.call 17 [(.lc [1] (.nm 1) .seq [(.var 0)] [] (.idx (.var 1) (.cst (.int 0))))]))]
def d__law_is_stock : Df := ⟨"_law_is_stock", ["_law_matter"], ["_law_matter", "_law_own"], defArgs (top 27), defBody (top 27), defScope (top 27), b__law_is_stock⟩
def b__law_spoilt : List S := [(.set 3 true (.lst [(.cst (.str "pa")), (.cst (.str "sa")), (.cst (.str "")), (.cst (.str "A")), (.cst .none), (.cst (.int 0)), (.cst (.int 1)), (.cst (.int 2)), (.cst (.bool true)), (.tup []), (.tup [(.cst (.str "sa"))]), (.tup [(.cst (.str "sa")), (.cst (.int 1))]), (.tup [(.cst (.str "sa")), (.cst (.str "va"))]), (.lst [])])), (.app 3 (.tup [(.cst (.str "tz")), (.cst (.str "ma")), (.tup []), (.cst (.str "pz")), (.tup [])])), (.iff (.bor [(.cmp .eq (.var 2) (.cst (.int 0))), (.not (.isi (.var 1) [.list, .tuple])), (.cmp .eq (.bi .len [(.var 1)]) (.cst (.int 0)))]) [(.ret (.call 10 [(.var 0), (.var 3)]))] []), (.par [(5, false), (6, false)] [(.call 8 [(.var 0), (.cst (.int 7))]), (.call 8 [(.var 0), (.bi .len [(.var 1)])])]), (.set 4 true (.bi .list [(.var 1)])), (.iff (.cmp .eq (.var 5) (.cst (.int 0))) [(.ret (.bi .list [(.var 1)]))] []), (.iff (.cmp .eq (.var 5) (.cst (.int 1))) [(.ret (.bi .tuple [(.op .add (.slU (.var 4) (.var 6)) (.slL (.var 4) (.op .add (.var 6) (.cst (.int 1)))))]))] []), (.iff (.cmp .eq (.var 5) (.cst (.int 2))) [(.ret (.bi .tuple [(.op .add (.slU (.var 4) (.op .add (.var 6) (.cst (.int 1)))) (.slL (.var 4) (.var 6)))]))] []), (.iff (.cmp .eq (.var 5) (.cst (.int 3))) [(.ret (.bi .tuple [(.op .add (.op .add (.slU (.var 4) (.var 6)) (.lst [(.call 10 [(.var 0), (.var 3)])])) (.slL (.var 4) (.var 6)))]))] []), (.iff (.cmp .eq (.var 5) (.cst (.int 4))) [(.ret (.bi .tuple [(.rev (.var 4))]))] []), (.put 4 (.var 6) (.call 23 [(.var 0), (.idx (.var 4) (.var 6)), (.op .sub (.var 2) (.cst (.int 1)))])), (.ret (.bi .tuple [(.var 4)]))]
def d__law_spoilt : Df := ⟨"_law_spoilt", ["_law_tin", "_law_matter", "_law_depth_so"], ["_law_tin", "_law_matter", "_law_depth_so", "_law_odd", "_law_rest", "_law_way_so", "_law_k"], defArgs (top 28), defBody (top 28), defScope (top 28), b__law_spoilt⟩
def b__law_steps_right : List S := [(.set 0 false (.tup [(.cst (.str "t")), (.cst (.str "m")), (.tup [(.cst (.str "a")), (.cst (.str "a")), (.cst (.str "b"))]), (.cst (.str "c")), (.tup [(.tup [(.cst (.str "f")), (.cst (.int 1))])])])), (.set 1 false (.lst [(.var 0), (.tup [(.cst (.str "t")), (.cst (.str "t")), (.tup []), (.cst (.str "t")), (.tup [])]), (.tup [(.cst (.str "t")), (.cst (.str "m")), (.bi .tuple [(.cst (.str "abcdefghij"))]), (.cst (.str "abcdefgh")), (.tup [])])])), (.set 2 true (.lst [(.cst .none), (.tup []), (.bi .list [(.var 0)]), (.slU (.var 0) (.cst (.int 4))), (.op .add (.var 0) (.tup [(.tup [])])), (.tup [(.cst (.str "")), (.cst (.str "m")), (.tup []), (.cst (.str "c")), (.tup [])])])), (.app 2 (.tup [(.cst (.str "t")), (.cst (.str "M")), (.tup []), (.cst (.str "c")), (.tup [])])), (.set 2 true (.op .add (.var 2) (.lst [(.tup [(.cst (.str "t")), (.cst (.str "m")), (.lst []), (.cst (.str "c")), (.tup [])]), (.tup [(.cst (.str "t")), (.cst (.str "m")), (.cst (.str "ab")), (.cst (.str "c")), (.tup [])])]))), (.set 2 true (.op .add (.var 2) (.lst [(.tup [(.cst (.str "t")), (.cst (.str "m")), (.tup [(.cst (.str "a")), (.cst (.int 1))]), (.cst (.str "c")), (.tup [])]), (.tup [(.cst (.str "t")), (.cst (.str "m")), (.tup []), (.cst (.str "c\n")), (.tup [])]), (.tup [(.cst (.str "t")), (.cst (.str "m")), (.tup []), (.tup [(.cst (.str "c"))]), (.tup [])])]))), (.set 2 true (.op .add (.var 2) (.lst [(.tup [(.cst (.str "t")), (.cst (.str "m")), (.tup []), (.cst (.str "c")), (.lst [])]), (.tup [(.cst (.str "t")), (.cst (.str "m")), (.tup []), (.cst (.str "c")), (.tup [(.tup [(.cst (.str "f")), (.cst (.bool true))])])])]))), (.set 2 true (.op .add (.var 2) (.lst [(.tup [(.cst (.str "t")), (.cst (.str "m")), (.tup []), (.cst (.str "c")), (.cst .none)]), (.tup [(.cst (.str "abcdefghi")), (.cst (.str "m")), (.tup []), (.cst (.str "c")), (.tup [])])]))), (.app 2 (.tup [(.cst (.str "t")), (.cst (.str "abcdefghi")), (.tup []), (.cst (.str "c")), (.tup [])])), (.set 2 true (.op .add (.var 2) (.lst [(.tup [(.cst (.str "t")), (.cst (.str "m")), (.tup []), (.cst (.str "abcdefghi")), (.tup [])]), (.tup [(.cst (.str "t")), (.cst (.str "m")), (.tup [(.cst (.str "a1"))]), (.cst (.str "c")), (.tup [])])]))), (.iff (.not (.call 12 [(.lc [3] (.nm 3) .seq [(.op .add (.var 1) (.var 2))] [] (.call 4 [(.var 3)])), (.op .add (.op .mul (.lst [(.cst (.bool true))]) (.bi .len [(.var 1)])) (.op .mul (.lst [(.cst (.bool false))]) (.bi .len [(.var 2)])))])) [(.ret (.cst (.bool false)))] []), (.ret (.cst (.bool true)))]
def d__law_steps_right : Df := ⟨"_law_steps_right", [], ["_law_first", "_law_fine", "_law_bad", "_law_own"], defArgs (top 29), defBody (top 29), defScope (top 29), b__law_steps_right⟩
def b__law_hand_right : List S := [(.set 0 true (.lst [(.tup []), (.tup [(.tup [(.cst (.str "a")), (.cst (.int 1))])]), (.tup [(.tup [(.cst (.str "a")), (.cst (.int 0))]), (.tup [(.cst (.str "b")), (.cst (.int 1))])])])), (.app 0 (.bi .tuple [(.lc [6] (.nm 6) .seq [(.cst (.str "abcdefghijklmnopqrst"))] [] (.tup [(.var 6), (.cst (.int 0))]))])), (.set 1 true (.lst [(.cst .none), (.cst (.int 0)), (.cst (.str "a")), (.lst []), (.lst [(.tup [(.cst (.str "a")), (.cst (.int 1))])]), (.tup [(.cst (.str "a")), (.cst (.int 1))]), (.tup [(.tup [(.cst (.str "a")), (.cst (.int 2))])]), (.tup [(.tup [(.cst (.str "a")), (.neg (.cst (.int 1)))])]), (.tup [(.tup [(.cst (.str "a")), (.cst (.bool true))])])])), (.app 1 (.tup [(.tup [(.cst (.str "a")), (.cst (.str "1"))])])), (.set 1 true (.op .add (.var 1) (.lst [(.tup [(.tup [(.cst (.str "a"))])]), (.tup [(.tup [(.cst (.str "a")), (.cst (.int 1)), (.cst (.int 0))])]), (.tup [(.tup [(.cst (.str "A")), (.cst (.int 1))])])]))), (.set 1 true (.op .add (.var 1) (.lst [(.tup [(.tup [(.cst (.str "a\n")), (.cst (.int 1))])]), (.tup [(.tup [(.cst (.str "b")), (.cst (.int 1))]), (.tup [(.cst (.str "a")), (.cst (.int 0))])]), (.tup [(.tup [(.cst (.str "a")), (.cst (.int 0))]), (.tup [(.cst (.str "a")), (.cst (.int 1))])]), (.tup [(.lst [(.cst (.str "a")), (.cst (.int 1))])]), (.tup [(.tup [(.cst (.str "")), (.cst (.int 0))])])]))), (.app 1 (.tup [(.tup [(.cst (.int 1)), (.cst (.int 1))])])), (.set 1 true (.op .add (.var 1) (.lst [(.tup [(.cst .none)]), (.tup [(.tup [(.cst (.str "abcdefghi")), (.cst (.int 1))])]), (.tup [(.tup [(.cst (.str "a1")), (.cst (.int 1))])])]))), (.iff (.not (.call 12 [(.lc [5] (.nm 5) .seq [(.op .add (.var 0) (.var 1))] [] (.call 3 [(.var 5)])), (.op .add (.op .mul (.lst [(.cst (.bool true))]) (.bi .len [(.var 0)])) (.op .mul (.lst [(.cst (.bool false))]) (.bi .len [(.var 1)])))])) [(.ret (.cst (.bool false)))] []), (.iff (.not (.call 24 [])) [(.ret (.cst (.bool false)))] []), (.set 2 false (.tup [(.cst (.str "t")), (.cst (.str "m")), (.tup [(.cst (.str "a")), (.cst (.str "a")), (.cst (.str "b"))]), (.cst (.str "c")), (.tup [(.tup [(.cst (.str "f")), (.cst (.int 1))])])])), (.set 3 false (.tup [(.tup [(.cst (.str "a")), (.cst (.str "m")), (.tup [(.cst (.str "y"))]), (.cst (.str "x")), (.tup [])]), (.tup [(.cst (.str "b")), (.cst (.str "m")), (.tup [(.cst (.str "x"))]), (.cst (.str "y")), (.tup [])])])), (.set 0 true (.lst [(.tup []), (.tup [(.var 2)]), (.var 3)])), (.app 0 (.bi .tuple [(.lc [6] (.nm 6) .seq [(.cst (.str "abcdefghijklmnopqrst"))] [] (.tup [(.op .add (.cst (.str "s")) (.var 6)), (.cst (.str "m")), (.tup []), (.cst (.str "c")), (.tup [])]))])), (.set 1 true (.lst [(.cst .none), (.var 2), (.lst [(.var 2)]), (.tup [(.bi .list [(.var 2)])]), (.rev (.var 3)), (.tup [(.var 2), (.var 2)]), (.tup [(.var 2), (.cst .none)]), (.tup [(.tup [])])])), (.app 1 (.tup [(.var 2), (.tup [(.cst (.str "t")), (.cst (.str "n")), (.tup []), (.cst (.str "d")), (.tup [])])])), (.set 4 false (.op .add (.lc [5] (.nm 5) .seq [(.op .add (.var 0) (.var 1))] [] (.call 5 [(.var 5)])) (.lst [(.callk 5 [(.var 3)]), (.callk 4 [(.var 2)]), (.callk 3 [(.tup [])])]))), (.iff (.not (.call 12 [(.var 4), (.op .add (.op .add (.op .mul (.lst [(.cst (.bool true))]) (.bi .len [(.var 0)])) (.op .mul (.lst [(.cst (.bool false))]) (.bi .len [(.var 1)]))) (.op .mul (.lst [(.cst (.bool true))]) (.cst (.int 3))))])) [(.ret (.cst (.bool false)))] []), (.set 0 true (.lst [(.tup []), (.tup [(.tup [(.cst (.str "a")), (.cst (.str "m"))])]), (.tup [(.tup [(.cst (.str "a")), (.cst (.str "m"))]), (.tup [(.cst (.str "b")), (.cst (.str "m"))])])])), (.set 1 true (.lst [(.cst .none), (.lst []), (.tup [(.cst (.str "a")), (.cst (.str "m"))]), (.lst [(.tup [(.cst (.str "a")), (.cst (.str "m"))])]), (.tup [(.lst [(.cst (.str "a")), (.cst (.str "m"))])]), (.tup [(.tup [(.cst (.str "a")), (.cst (.int 1))])]), (.tup [(.tup [(.cst (.str "a")), (.cst (.str ""))])])])), (.app 1 (.tup [(.tup [(.cst (.str "a")), (.cst (.str "m\n"))])])), (.set 1 true (.op .add (.var 1) (.lst [(.tup [(.tup [(.cst (.str "b")), (.cst (.str "m"))]), (.tup [(.cst (.str "a")), (.cst (.str "m"))])]), (.tup [(.tup [(.cst (.str "a")), (.cst (.str "m"))]), (.tup [(.cst (.str "a")), (.cst (.str "n"))])]), (.tup [(.tup [(.cst (.str "a"))])]), (.tup [(.tup [(.cst (.str "a")), (.cst (.str "m")), (.cst (.str "n"))])])]))), (.set 1 true (.op .add (.var 1) (.lst [(.tup [(.tup [(.cst (.str "A")), (.cst (.str "m"))])]), (.tup [(.tup [(.cst (.str "a1")), (.cst (.str "m"))])]), (.tup [(.tup [(.cst (.str "a")), (.cst (.str "m1"))])]), (.tup [(.tup [(.cst (.str "abcdefghi")), (.cst (.str "m"))])])]))), (.app 1 (.tup [(.tup [(.cst (.str "a")), (.cst (.str "abcdefghi"))])])), (.set 4 false (.op .add (.lc [5] (.nm 5) .seq [(.op .add (.var 0) (.var 1))] [] (.call 6 [(.var 5)])) (.lst [(.callk 6 [(.idx (.var 0) (.cst (.int 1)))])]))), (.ret (.call 12 [(.var 4), (.op .add (.op .add (.op .mul (.lst [(.cst (.bool true))]) (.bi .len [(.var 0)])) (.op .mul (.lst [(.cst (.bool false))]) (.bi .len [(.var 1)]))) (.lst [(.cst (.bool true))]))]))]
def d__law_hand_right : Df := ⟨"_law_hand_right", [], ["_law_fine", "_law_bad", "_law_first", "_law_ring", "_law_got", "_law_own", "_law_letter"], defArgs (top 30), defBody (top 30), defScope (top 30), b__law_hand_right⟩
def b__law_right : List S := [(.for (.nm 1) .range [(.cst (.int 6))] [(.set 2 false (.call 13 [(.var 0), (.cst (.int 6)), (.tup [(.cst (.str "fa")), (.cst (.str "fb"))])])), (.set 3 false (.call 15 [(.var 0), (.var 2), (.tup []), (.lst [(.cst (.str "va")), (.cst (.str "vb"))])])), (.set 4 false (.ite (.cmp .gt (.call 8 [(.var 0), (.cst (.int 3))]) (.cst (.int 0))) (.call 23 [(.var 0), (.var 2), (.cst (.int 4))]) (.var 2))), (.set 5 false (.ite (.cmp .gt (.call 8 [(.var 0), (.cst (.int 3))]) (.cst (.int 0))) (.call 23 [(.var 0), (.var 3), (.cst (.int 3))]) (.var 3))), (.set 6 false (.call 23 [(.var 0), (.call 10 [(.var 0), (.var 2)]), (.cst (.int 3))])), (.set 7 false (.call 23 [(.var 0), (.tup [(.tup [(.cst (.str "fa")), (.cst (.int 1))]), (.tup [(.cst (.str "fb")), (.cst (.int 0))])]), (.cst (.int 2))])), (.set 8 true (.lst [(.call 5 [(.var 4)]), (.call 5 [(.var 2)]), (.call 6 [(.var 5)]), (.call 6 [(.var 3)]), (.call 4 [(.var 6)])])), (.app 8 (.call 3 [(.var 7)])), (.set 9 true (.lst [(.call 21 [(.var 4)]), (.cst (.bool true)), (.call 22 [(.var 5)]), (.cst (.bool true)), (.call 20 [(.var 6)])])), (.app 9 (.call 19 [(.var 7)])), (.iff (.not (.call 12 [(.var 8), (.var 9)])) [(.ret (.cst (.bool false)))] [])]), (.ret (.cst (.bool true)))]
def d__law_right : Df := ⟨"_law_right", ["_law_tin"], ["_law_tin", "_law_turn", "_law_form_here", "_law_stock_here", "_law_matter", "_law_third", "_law_piece", "_law_on_so", "_law_got", "_law_due"], defArgs (top 31), defBody (top 31), defScope (top 31), b__law_right⟩
def b_law : List S := [(.iff (.not (.call 25 [])) [(.ret (.cst (.bool false)))] []), (.set 1 false (.call 9 [(.var 0), (.cst (.int 3))])), (.ret (.bi .all [(.lc [2] (.nm 2) .range [(.bi .len [(.var 1)])] [] (.callc 26 [(.cell (.call 7 [(.var 1), (.var 2)]))]))]))]
def d_law : Df := ⟨"law", ["_law_script"], ["_law_script", "_law_cells_here", "_law_k"], defArgs (top 32), defBody (top 32), defScope (top 32), b_law⟩
def D : List Df := [d_is_number, d_is_name, d_rises, d_is_condition, d_is_step, d_is_plan, d_is_counts, d__law_box, d__law_take, d__law_cells, d__law_of, d__law_pick, d__law_same, d__law_form, d__law_on, d__law_stock, d__law_is_tag, d__law_rises, d__law_are_pairs, d__law_is_on, d__law_is_bit, d__law_is_form, d__law_is_stock, d__law_spoilt, d__law_steps_right, d__law_hand_right, d__law_right, d_law]
def free : List Str := ["abs", "all", "bool", "dict", "enumerate", "int", "isinstance", "len", "list", "min", "range", "set", "sorted", "str", "tuple", "zip"]
def glo : List (Str × PyData) := [("LETTERS", (.str "abcdefghijklmnopqrstuvwxyz"))]
theorem chk : D.all (dfB D free glo) = true := by decide +kernel
end K0


set_option Elab.async false
set_option linter.all false
set_option autoImplicit false
set_option maxRecDepth 100000
/-! the evaluator, read by simp -/
namespace Ra.M
open PySem
section
variable (call : Call) (wf : Nat) (env : Env) (m : Mem)
@[simp] theorem nf_d (x : PyData) : Val.nf (.d x) = .d x := rfl
@[simp] theorem nf_fr (xs : List PyData) : Val.nf (.fr xs) = .d (.list xs) := rfl
@[simp] theorem nf_mr (k : Nat) : Val.nf (.mr k) = .mr k := rfl
@[simp] theorem rdR_d (x : PyData) : rdR m (.d x) = .ok x m := rfl
@[simp] theorem rdR_fr (xs : List PyData) : rdR m (.fr xs) = .ok (.list xs) m := rfl
theorem rdR_mr {k : Nat} {c : Cell} (h : m[k]? = some c) : rdR m (.mr k) = .ok (.list c.xs) m := by
  show optR ((m[k]?).map fun c => PyData.list c.xs) m = _
  rw [h]; rfl
@[simp] theorem frz_d (x : PyData) : frz (.d x) m = .ok x m := rfl
@[simp] theorem frz_fr (xs : List PyData) : frz (.fr xs) m = .ok (.list xs) m := rfl
@[simp] theorem truR_bool (b : Bool) : truR (.d (.bool b)) m = .ok b m := rfl
@[simp] theorem truR_d (x : PyData) : truR (.d x) m = optR (truth x) m := rfl
@[simp] theorem truR_fr (xs : List PyData) : truR (.fr xs) m = .ok (!xs.isEmpty) m := rfl
@[simp] theorem truth_bool (b : Bool) : truth (.bool b) = some b := rfl
@[simp] theorem truth_list (xs : List PyData) : truth (.list xs) = some (!xs.isEmpty) := rfl
@[simp] theorem truth_tuple (xs : List PyData) : truth (.tuple xs) = some (!xs.isEmpty) := rfl
@[simp] theorem boolR_eq (b : Bool) : boolR b m = .ok (.d (.bool b)) m := rfl
@[simp] theorem intR_int (i : Int) : intR (.int i) m = .ok i m := rfl
@[simp] theorem mkCell_fr (xs : List PyData) : mkCell (.fr xs) m = .ok (.mr m.length) (m ++ [⟨false, xs⟩]) := rfl
@[simp] theorem mkCell_mr (k : Nat) : mkCell (.mr k) m = .ok (.mr k) m := rfl
@[simp] theorem mkCell_d (x : PyData) : mkCell (.d x) m = .ok (.d x) m := rfl
@[simp] theorem stored_f (v : Val) : stored false v m = .ok v.nf m := rfl
@[simp] theorem stored_t (v : Val) : stored true v m = mkCell v m := rfl
@[simp] theorem getV_zero (v : Option Val) (r : Env) : getV (v :: r) 0 = v := by simp [getV]
@[simp] theorem getV_succ (v : Option Val) (r : Env) (i : Nat) : getV (v :: r) (i + 1) = getV r i := by simp [getV]
@[simp] theorem setV_zero (u : Option Val) (r : Env) (v : Val) : setV (u :: r) 0 v = some v :: r := rfl
@[simp] theorem setV_succ (u : Option Val) (r : Env) (i : Nat) (v : Val) : setV (u :: r) (i + 1) v = u :: setV r i v := rfl
/-! expressions -/
variable (e a b c i lo hi : E) (es src tests : List E)
@[simp] theorem v_var (k : Nat) : (sem call (.var k)).v env m = optR (getV env k) m := rfl
@[simp] theorem t_var (k : Nat) : (sem call (.var k)).t env m = (optR (getV env k) m).bind truR := rfl
@[simp] theorem v_cst (x : PyData) : (sem call (.cst x)).v env m = .ok (.d x) m := rfl
@[simp] theorem t_cst (x : PyData) : (sem call (.cst x)).t env m = optR (truth x) m := rfl
@[simp] theorem v_glo (x : PyData) : (sem call (.glo x)).v env m = .ok (.d x) m := rfl
@[simp] theorem v_tup : (sem call (.tup es)).v env m = (cItems (sems call es) env m).bind fun xs m1 => .ok (.d (.tuple xs)) m1 := rfl
@[simp] theorem v_lst : (sem call (.lst es)).v env m = (cItems (sems call es) env m).bind fun xs m1 => .ok (.fr xs) m1 := rfl
@[simp] theorem v_call (f : Nat) : (sem call (.call f es)).v env m = (cArgs (sems call es) env m).bind fun vs m1 => call f vs m1 := rfl
@[simp] theorem t_call (f : Nat) : (sem call (.call f es)).t env m = ((cArgs (sems call es) env m).bind fun vs m1 => call f vs m1).bind truR := rfl
@[simp] theorem v_callk (f : Nat) : (sem call (.callk f es)).v env m = (cArgs (sems call es) env m).bind fun vs m1 => call f vs m1 := rfl
@[simp] theorem v_callc (f : Nat) : (sem call (.callc f es)).v env m = (cArgs (sems call es) env m).bind fun vs m1 => (call f vs m1).bind fun v m2 => leave m.length v m2 := rfl
@[simp] theorem v_cell : (sem call (.cell e)).v env m = ((sem call e).v env m).bind mkCell := rfl
@[simp] theorem v_op (o : Bop) : (sem call (.op o a b)).v env m = ((sem call a).v env m).bind fun va m1 => ((sem call b).v env m1).bind fun vb m2 => (rdR m2 va.nf).bind fun x m3 => (rdR m3 vb.nf).bind fun y m4 => optR (bop o x y) m4 := rfl
@[simp] theorem v_neg : (sem call (.neg a)).v env m = ((sem call a).v env m).bind fun va m1 => (rdR m1 va.nf).bind fun x m => match x with
      | .int i => .ok (.d (.int (-i))) m
      | _ => .fail := rfl
@[simp] theorem v_cmp (o : Cop) : (sem call (.cmp o a b)).v env m = ((sem call a).v env m).bind fun va m1 => ((sem call b).v env m1).bind fun vb m2 => (rdR m2 va.nf).bind fun x m3 => (rdR m3 vb.nf).bind fun y m4 => (optR (cmp o x y) m4).bind boolR := rfl
@[simp] theorem t_cmp (o : Cop) : (sem call (.cmp o a b)).t env m = ((sem call (.cmp o a b)).v env m).bind truR := rfl
@[simp] theorem v_chain (o o' : Cop) : (sem call (.chain o o' a b c)).v env m = ((sem call a).v env m).bind fun va m1 => ((sem call b).v env m1).bind fun vb m2 =>
  (rdR m2 va.nf).bind fun x m3 => (rdR m3 vb.nf).bind fun y m4 => (optR (cmp o x y) m4).bind fun t m5 =>
    if t = true then ((sem call c).v env m5).bind fun vc m6 => (rdR m6 vb.nf).bind fun y' m7 => (rdR m7 vc.nf).bind fun z m8 => (optR (cmp o' y' z) m8).bind boolR
    else boolR false m5 := rfl
@[simp] theorem t_chain (o o' : Cop) : (sem call (.chain o o' a b c)).t env m = ((sem call (.chain o o' a b c)).v env m).bind truR := rfl
@[simp] theorem v_isN : (sem call (.isN a)).v env m = ((sem call a).v env m).bind fun va m1 => (rdR m1 va.nf).bind fun x m => boolR (isNone x) m := rfl
@[simp] theorem t_isN : (sem call (.isN a)).t env m = ((sem call (.isN a)).v env m).bind truR := rfl
@[simp] theorem v_isnN : (sem call (.isnN a)).v env m = ((sem call a).v env m).bind fun va m1 => (rdR m1 va.nf).bind fun x m => boolR (!isNone x) m := rfl
@[simp] theorem t_isnN : (sem call (.isnN a)).t env m = ((sem call (.isnN a)).v env m).bind truR := rfl
@[simp] theorem v_band1 : (sem call (.band [e])).v env m = (sem call e).v env m := rfl
@[simp] theorem v_band : (sem call (.band (e :: a :: es))).v env m = ((sem call e).v env m).bind fun v m1 => (truR v m1).bind fun t m2 => if t = true then (sem call (.band (a :: es))).v env m2 else .ok v m2 := rfl
@[simp] theorem t_band1 : (sem call (.band [e])).t env m = (sem call e).t env m := rfl
@[simp] theorem t_band : (sem call (.band (e :: a :: es))).t env m = ((sem call e).t env m).bind fun t m1 => if t = true then (sem call (.band (a :: es))).t env m1 else .ok false m1 := rfl
@[simp] theorem v_bor1 : (sem call (.bor [e])).v env m = (sem call e).v env m := rfl
@[simp] theorem v_bor : (sem call (.bor (e :: a :: es))).v env m = ((sem call e).v env m).bind fun v m1 => (truR v m1).bind fun t m2 => if t = true then .ok v m2 else (sem call (.bor (a :: es))).v env m2 := rfl
@[simp] theorem t_bor1 : (sem call (.bor [e])).t env m = (sem call e).t env m := rfl
@[simp] theorem t_bor : (sem call (.bor (e :: a :: es))).t env m = ((sem call e).t env m).bind fun t m1 => if t = true then .ok true m1 else (sem call (.bor (a :: es))).t env m1 := rfl
@[simp] theorem v_not : (sem call (.not a)).v env m = ((sem call a).v env m).bind fun v m1 => (truR v m1).bind fun t m2 => boolR (!t) m2 := rfl
@[simp] theorem t_not : (sem call (.not a)).t env m = ((sem call a).t env m).bind fun t m1 => .ok (!t) m1 := rfl
@[simp] theorem v_ite : (sem call (.ite c a b)).v env m = ((sem call c).t env m).bind fun t m1 => if t = true then (sem call a).v env m1 else (sem call b).v env m1 := rfl
@[simp] theorem v_idx : (sem call (.idx a i)).v env m = ((sem call a).v env m).bind fun va m1 => ((sem call i).v env m1).bind fun vb m2 => (rdR m2 va.nf).bind fun x m3 => (rdR m3 vb.nf).bind fun y m => (optR (idx x y) m).bind fun z m1 => .ok (.d z) m1 := rfl
@[simp] theorem v_sl : (sem call (.sl a)).v env m = ((sem call a).v env m).bind fun va m1 => (rdR m1 va.nf).bind fun x m => optR (slc x none none) m := rfl
def slLR (x l : PyData) (m : Mem) : Res Val := match l with
  | .int l => optR (slc x (some l) none) m
  | _ => .fail
def slUR (x l : PyData) (m : Mem) : Res Val := match l with
  | .int l => optR (slc x none (some l)) m
  | _ => .fail
@[simp] theorem slLR_int (x : PyData) (l : Int) : slLR x (.int l) m = optR (slc x (some l) none) m := rfl
@[simp] theorem slUR_int (x : PyData) (l : Int) : slUR x (.int l) m = optR (slc x none (some l)) m := rfl
@[simp] theorem v_slL : (sem call (.slL a lo)).v env m = ((sem call a).v env m).bind fun va m1 => ((sem call lo).v env m1).bind fun vb m2 => (rdR m2 va.nf).bind fun x m3 => (rdR m3 vb.nf).bind fun l m => slLR x l m := rfl
@[simp] theorem v_slU : (sem call (.slU a lo)).v env m = ((sem call a).v env m).bind fun va m1 => ((sem call lo).v env m1).bind fun vb m2 => (rdR m2 va.nf).bind fun x m3 => (rdR m3 vb.nf).bind fun l m => slUR x l m := rfl
@[simp] theorem v_slLU : (sem call (.slLU a lo hi)).v env m = ((sem call a).v env m).bind fun va m1 => ((sem call lo).v env m1).bind fun vb m2 => (rdR m2 vb.nf).bind fun y m3 => (intR y m3).bind fun l m4 =>
  ((sem call hi).v env m4).bind fun vc m5 => (rdR m5 va.nf).bind fun x m6 => (rdR m6 vc.nf).bind fun z m7 => (intR z m7).bind fun h m8 => optR (slc x (some l) (some h)) m8 := rfl
@[simp] theorem v_rev : (sem call (.rev a)).v env m = ((sem call a).v env m).bind fun va m1 => (rdR m1 va.nf).bind fun x m => optR (revd x) m := rfl
@[simp] theorem v_bi (o : Bi) : (sem call (.bi o es)).v env m = (cArgs (sems call es) env m).bind fun vs m1 => (optR (lookAll m1 vs) m1).bind fun xs m2 => optR (bi o xs) m2 := rfl
@[simp] theorem t_bi (o : Bi) : (sem call (.bi o es)).t env m = ((sem call (.bi o es)).v env m).bind truR := rfl
@[simp] theorem v_isi (cs : List Cls) : (sem call (.isi a cs)).v env m = ((sem call a).v env m).bind fun va m1 => (rdR m1 va.nf).bind fun x m => boolR (cs.any (isi x)) m := rfl
@[simp] theorem t_isi (cs : List Cls) : (sem call (.isi a cs)).t env m = ((sem call (.isi a cs)).v env m).bind truR := rfl
@[simp] theorem v_lc (own : List Nat) (t : Tg) (k : Sk) : (sem call (.lc own t k src tests e)).v env m = (srcR k (sems call src) env m).bind fun p m1 => (lcLoop t (sems call tests) (sem call e) p.2 (wipe env own) p.1 m1).bind fun ys m2 => .ok (.fr ys) m2 := rfl
@[simp] theorem cItems_nil : cItems (sems call []) env m = .ok [] m := rfl
@[simp] theorem cItems_cons : cItems (sems call (e :: es)) env m = ((sem call e).v env m).bind fun v m1 => (frz v m1).bind fun x m2 => (cItems (sems call es) env m2).bind fun xs m3 => .ok (x :: xs) m3 := rfl
@[simp] theorem cArgs_nil : cArgs (sems call []) env m = .ok [] m := rfl
@[simp] theorem cArgs_cons : cArgs (sems call (e :: es)) env m = ((sem call e).v env m).bind fun v m1 => (cArgs (sems call es) env m1).bind fun vs m2 => .ok (v.nf :: vs) m2 := rfl
@[simp] theorem tAll_nil : tAll (sems call []) env m = .ok true m := rfl
@[simp] theorem tAll_one : tAll (sems call [e]) env m = (sem call e).t env m := by
  show ((sem call e).t env m).bind (fun t m1 => if t = true then Res.ok true m1 else .ok false m1) = _
  cases (sem call e).t env m with
  | ok t m1 => cases t <;> rfl
  | exc a b => rfl
  | fail => rfl
@[simp] theorem srcR_eq (k : Sk) : srcR k (sems call src) env m = (cArgs (sems call src) env m).bind fun vs m1 => (optR (lookAll m1 vs) m1).bind fun xs m2 => (optR (walk k xs) m2).bind fun is m3 => .ok (is, guards vs) m3 := rfl
@[simp] theorem lookAll_nil : lookAll m [] = some [] := rfl
@[simp] theorem lookAll_d (x : PyData) (r : List Val) : lookAll m (.d x :: r) = (lookAll m r).map (x :: ·) := by
  show (match some x, lookAll m r with | some x, some xs => some (x :: xs) | _, _ => none) = _
  cases lookAll m r <;> rfl
theorem lookAll_mr {k : Nat} {c : Cell} (h : m[k]? = some c) (r : List Val) : lookAll m (.mr k :: r) = (lookAll m r).map (.list c.xs :: ·) := by
  show (match (m[k]?).map fun c => PyData.list c.xs, lookAll m r with | some x, some xs => some (x :: xs) | _, _ => none) = _
  rw [h]
  cases lookAll m r <;> rfl
@[simp] theorem guards_nil : guards [] = [] := rfl
@[simp] theorem guards_d (x : PyData) (r : List Val) : guards (.d x :: r) = guards r := rfl
@[simp] theorem guards_mr (k : Nat) (r : List Val) : guards (.mr k :: r) = k :: guards r := rfl
@[simp] theorem walk_list (xs : List PyData) : walk .seq [.list xs] = some xs := rfl
@[simp] theorem walk_tuple (xs : List PyData) : walk .seq [.tuple xs] = some xs := rfl
@[simp] theorem walk_str (s : Str) : walk .seq [.str s] = some (signs s) := rfl
@[simp] theorem walk_zip (xs ys : List PyData) : walk .zip [.list xs, .list ys] = some (zipD xs ys) := rfl
@[simp] theorem walk_zipT (xs ys : List PyData) : walk .zip [.tuple xs, .tuple ys] = some (zipD xs ys) := rfl
@[simp] theorem walk_enum (xs : List PyData) : walk .enum [.list xs] = some (enumD 0 xs) := rfl
theorem walk_range {n : Nat} (h : n ≤ 1000000) : walk .range [.int n] = some (rangeD 0 n) := by
  unfold walk
  simp only
  rw [if_pos ⟨by omega, by omega⟩, Int.toNat_natCast]
@[simp] theorem same_nil (m' : Mem) : same [] m m' = true := rfl
@[simp] theorem asg_nm_zero (x : PyData) (u : Option Val) (r : Env) : asg (.nm 0) x (u :: r) = some (some (.d x) :: r) := by simp [asg]
@[simp] theorem asg_nm (k : Nat) (x : PyData) : asg (.nm k) x env = if k < env.length then some (setV env k (.d x)) else none := by simp [asg]
@[simp] theorem asg_tp (ts : List Tg) (xs : List PyData) : asg (.tp ts) (.tuple xs) env = asgs ts xs env := by simp [asg]
@[simp] theorem asgs_nil : asgs [] [] env = some env := by simp [asgs]
@[simp] theorem asgs_cons (t : Tg) (ts : List Tg) (x : PyData) (xs : List PyData) : asgs (t :: ts) (x :: xs) env = (asg t x env).bind fun env' => asgs ts xs env' := by
  rw [asgs]
  cases asg t x env <;> rfl
/-! statements -/
def nextF (b : EX) (f : Flow) (m : Mem) : Res Flow := match f with
  | .next env' => b env' m
  | f => .ok f m
@[simp] theorem nextF_next (b : EX) : nextF b (.next env) m = b env m := rfl
@[simp] theorem nextF_ret (b : EX) (v : Val) : nextF b (.ret v) m = .ok (.ret v) m := rfl
variable (s : S) (r body els : List S)
@[simp] theorem exB_nil : exB call wf [] env m = .ok (.next env) m := rfl
@[simp] theorem exB_cons : exB call wf (s :: r) env m = (exS call wf s env m).bind (nextF (exB call wf r)) := by
  show ((exS call wf s env m).bind fun f m1 => match f with | .next env' => exB call wf r env' m1 | f => .ok f m1) = _
  rfl
@[simp] theorem x_expr : exS call wf (.expr e) env m = ((sem call e).v env m).bind fun _ m1 => .ok (.next env) m1 := rfl
@[simp] theorem setIn_eq (k : Nat) (v : Val) : setIn env k v m = if k < env.length then .ok (.next (setV env k v)) m else .fail := rfl
@[simp] theorem x_set (k : Nat) (cl : Bool) : exS call wf (.set k cl e) env m = ((sem call e).v env m).bind fun v m1 => (stored cl v m1).bind fun v' m2 => setIn env k v' m2 := rfl
def asgR (o : Option Env) (m : Mem) : Res Flow := match o with
  | some env' => .ok (.next env') m
  | none => .fail
@[simp] theorem asgR_some : asgR (some env) m = .ok (.next env) m := rfl
@[simp] theorem x_setT (t : Tg) : exS call wf (.setT t e) env m = ((sem call e).v env m).bind fun v m1 => (rdR m1 v.nf).bind fun x m2 => asgR (asg t x env) m2 := rfl
@[simp] theorem x_par (is : List (Nat × Bool)) : exS call wf (.par is es) env m = (parV is (sems call es) env m).bind fun vs m1 => setAll is vs env m1 := rfl
@[simp] theorem parV_nil : parV [] (sems call []) env m = .ok [] m := rfl
@[simp] theorem parV_cons (k : Nat) (cl : Bool) (is : List (Nat × Bool)) : parV ((k, cl) :: is) (sems call (e :: es)) env m = ((sem call e).v env m).bind fun v m1 => (stored cl v m1).bind fun v' m2 => (parV is (sems call es) env m2).bind fun vs m3 => .ok (v' :: vs) m3 := rfl
@[simp] theorem setAll_nil : setAll [] [] env m = .ok (.next env) m := rfl
@[simp] theorem setAll_cons (k : Nat) (cl : Bool) (is : List (Nat × Bool)) (v : Val) (vs : List Val) : setAll ((k, cl) :: is) (v :: vs) env m = if k < env.length then setAll is vs (setV env k v) m else .fail := rfl
@[simp] theorem x_ret : exS call wf (.ret e) env m = ((sem call e).v env m).bind fun v m1 => .ok (.ret v) m1 := rfl
@[simp] theorem x_iff : exS call wf (.iff e body els) env m = ((sem call e).t env m).bind fun t m1 => if t = true then exB call wf body env m1 else exB call wf els env m1 := rfl
@[simp] theorem x_for (t : Tg) (k : Sk) : exS call wf (.for t k src body) env m = (srcR k (sems call src) env m).bind fun p m1 => forLoop t (exB call wf body) p.2 p.1 env m1 := rfl
@[simp] theorem x_while : exS call wf (.while e body) env m = whileLoop (sem call e) (exB call wf body) wf env m := rfl
@[simp] theorem onCell_mr {k : Nat} {rr : Res Flow} {j : Nat} (h : getV env k = some (.mr j)) : onCell env k rr = rr := by
  unfold onCell; rw [h]
theorem upCell_mr {k j : Nat} {f : List PyData → Option (List PyData)} {xs ys : List PyData} (h : getV env k = some (.mr j)) (hm : m[j]? = some ⟨false, xs⟩) (hf : f xs = some ys) : upCell env k f m = .ok (.next env) (m.set j ⟨false, ys⟩) := by
  unfold upCell; rw [h]; simp only; rw [hm]; simp only [if_true]; rw [hf]
@[simp] theorem x_app (k : Nat) : exS call wf (.app k e) env m = onCell env k (((sem call e).v env m).bind fun v m1 => (frz v m1).bind fun x m2 => upCell env k (fun xs => if xs.length < lim then some (xs ++ [x]) else none) m2) := rfl
@[simp] theorem x_put (k : Nat) : exS call wf (.put k i e) env m = ((sem call e).v env m).bind fun v m1 => (frz v m1).bind fun x m2 => onCell env k (((sem call i).v env m2).bind fun vj m3 => (rdR m3 vj.nf).bind fun y m4 => upCell env k (putD y x) m4) := rfl
end
def endF (n : Nat) (fl : Flow) (m : Mem) : Res Val := match fl with
  | .ret v => leave n v m
  | .next _ => .ok (.d .none) (m.take n)
  | _ => .fail
@[simp] theorem endF_ret (n : Nat) (v : Val) (m : Mem) : endF n (.ret v) m = leave n v m := rfl
@[simp] theorem leave_d (n : Nat) (x : PyData) (m : Mem) : leave n (.d x) m = .ok (.d x) (m.take n) := rfl
@[simp] theorem leave_fr (n : Nat) (x : List PyData) (m : Mem) : leave n (.fr x) m = .ok (.fr x) (m.take n) := rfl
theorem leave_new {n k : Nat} {m : Mem} {xs : List PyData} (h : m[k]? = some ⟨false, xs⟩) (hn : n ≤ k) : leave n (.mr k) m = .ok (.fr xs) (m.take n) := by
  unfold leave
  simp only
  rw [if_neg (by omega), h]
  simp
theorem run_succ {T : List Fn} {wf n f : Nat} {vs : List Val} {m : Mem} (F : Fn) (hF : T[f]? = some F) (hl : vs.length = F.ps) (hp : F.ps ≤ F.n) :
    run T wf (n + 1) f vs m = (exB (run T wf n) wf F.body (vs.map some ++ List.replicate (F.n - F.ps) none) m).bind (endF m.length) := by
  unfold run
  simp only [hF, hl, hp, and_self, if_true]
  rfl
/-! loops -/
theorem lcLoop_pure {t : Tg} {tests : List P} {elt : P} {gs : List Nat} {env : Env} {m : Mem} (p : PyData → Bool) (f : PyData → PyData) (hg : same gs m m = true) : ∀ {xs : List PyData},
    (∀ x ∈ xs, ∃ env', asg t x env = some env' ∧ tAll tests env' m = .ok (p x) m ∧ (p x = true → ∃ v, elt.v env' m = .ok v m ∧ frz v m = .ok (f x) m)) → lcLoop t tests elt gs env xs m = .ok ((xs.filter p).map f) m
  | [], _ => rfl
  | x :: xs, h => by
    obtain ⟨env', h1, h2, h3⟩ := h x List.mem_cons_self
    have ih := lcLoop_pure (t := t) (tests := tests) (elt := elt) (env := env) p f hg (xs := xs) fun y hy => h y (List.mem_cons_of_mem _ hy)
    unfold lcLoop
    rw [h1]
    simp only [h2, Res.bind_ok]
    cases hp : p x with
    | false => simp [hg, ih, hp]
    | true =>
      obtain ⟨v, h4, h5⟩ := h3 hp
      simp [h4, h5, hg, ih, hp]
theorem lcLoop_inv {t : Tg} {elt : P} {gs : List Nat} {env : Env} (J : Nat → Mem → Prop) (Pr : PyData → Prop) : ∀ {xs : List PyData} (n0 : Nat) {m : Mem},
    (∀ i x, xs[i]? = some x → ∀ m, J (n0 + i) m → ∃ env' v m2 y m3, asg t x env = some env' ∧ elt.v env' m = .ok v m2 ∧ frz v m2 = .ok y m3 ∧ same gs m m3 = true ∧ J (n0 + i + 1) m3 ∧ Pr y) → J n0 m →
    ∃ ys m', lcLoop t [] elt gs env xs m = .ok ys m' ∧ ys.length = xs.length ∧ (∀ y ∈ ys, Pr y) ∧ J (n0 + xs.length) m'
  | [], n0, m, _, h0 => ⟨[], m, rfl, rfl, by simp, by simpa using h0⟩
  | x :: xs, n0, m, h, h0 => by
    obtain ⟨env', v, m2, y, m3, a1, a2, a3, a4, a5, a6⟩ := h 0 x rfl m (by simpa using h0)
    obtain ⟨ys, m', b1, b2, b3, b4⟩ := lcLoop_inv J Pr (xs := xs) (n0 + 1) (m := m3) (fun i z hz m hm => by
      obtain ⟨env', v, m2, y, m3, c1, c2, c3, c4, c5, c6⟩ := h (i + 1) z (by simpa using hz) m (by rw [show n0 + (i + 1) = n0 + 1 + i by omega]; exact hm)
      exact ⟨env', v, m2, y, m3, c1, c2, c3, c4, by rw [show n0 + 1 + i + 1 = n0 + (i + 1) + 1 by omega]; exact c5, c6⟩) (by simpa using a5)
    refine ⟨y :: ys, m', ?_, by simp [b2], fun z hz => ?_, by rw [List.length_cons, show n0 + (xs.length + 1) = n0 + 1 + xs.length by omega]; exact b4⟩
    · unfold lcLoop
      rw [a1]
      simp [tAll, a2, a3, a4, b1]
    · rcases List.mem_cons.mp hz with rfl | hz
      · exact a6
      · exact b3 z hz
theorem forLoop_inv {t : Tg} {body : EX} {gs : List Nat} (J : Nat → Env → Mem → Prop) : ∀ {xs : List PyData} (n0 : Nat) {env : Env} {m : Mem},
    (∀ i x, xs[i]? = some x → ∀ env m, J (n0 + i) env m → ∃ env1 env2 m2, asg t x env = some env1 ∧ body env1 m = .ok (.next env2) m2 ∧ same gs m m2 = true ∧ J (n0 + i + 1) env2 m2) → J n0 env m →
    ∃ env' m', forLoop t body gs xs env m = .ok (.next env') m' ∧ J (n0 + xs.length) env' m'
  | [], n0, env, m, _, h0 => ⟨env, m, rfl, by simpa using h0⟩
  | x :: xs, n0, env, m, h, h0 => by
    obtain ⟨env1, env2, m2, a1, a2, a3, a4⟩ := h 0 x rfl env m (by simpa using h0)
    obtain ⟨env', m', b1, b2⟩ := forLoop_inv J (xs := xs) (n0 + 1) (env := env2) (m := m2) (fun i z hz env m hm => by
      obtain ⟨e1, e2, m2, c1, c2, c3, c4⟩ := h (i + 1) z (by simpa using hz) env m (by rw [show n0 + (i + 1) = n0 + 1 + i by omega]; exact hm)
      exact ⟨e1, e2, m2, c1, c2, c3, by rw [show n0 + 1 + i + 1 = n0 + (i + 1) + 1 by omega]; exact c4⟩) (by simpa using a4)
    refine ⟨env', m', ?_, by rw [List.length_cons, show n0 + (xs.length + 1) = n0 + 1 + xs.length by omega]; exact b2⟩
    unfold forLoop
    rw [a1]
    simp only [a2, Res.bind_ok, a3, if_true]
    exact b1
@[simp] theorem bind_ite {α β : Type} (c : Prop) [Decidable c] (a b : Res α) (f : α → Mem → Res β) : (if c then a else b).bind f = if c then a.bind f else b.bind f := by split <;> rfl
theorem lcLoop_map {t : Tg} {call : Call} {elt : P} {gs : List Nat} {env : Env} {m : Mem} (f : PyData → PyData) (hg : same gs m m = true) {xs : List PyData}
    (h : ∀ x ∈ xs, ∃ env', asg t x env = some env' ∧ ∃ v, elt.v env' m = .ok v m ∧ frz v m = .ok (f x) m) : lcLoop t (sems call []) elt gs env xs m = .ok (xs.map f) m := by
  rw [lcLoop_pure (fun _ => true) f hg]
  · rw [List.filter_eq_self.mpr fun _ _ => rfl]
  · intro x hx
    obtain ⟨env', h1, h2⟩ := h x hx
    exact ⟨env', h1, rfl, fun _ => h2⟩
theorem bools_map {α : Type} (f : α → Bool) : ∀ xs : List α, bools (xs.map fun x => PyData.bool (f x)) = some (xs.map f)
  | [] => rfl
  | x :: xs => by
    show (bools (xs.map fun x => PyData.bool (f x))).map (f x :: ·) = _
    rw [bools_map f xs]; rfl
/-- all, closed to simp -/
def allB {α : Type} (xs : List α) (f : α → Bool) : Bool := xs.all f
theorem allB_eq {α : Type} (xs : List α) (f : α → Bool) : allB xs f = xs.all f := rfl
theorem allB_at {α : Type} {xs : List α} {f : α → Bool} (h : allB xs f = true) {x : α} (hx : x ∈ xs) : f x = true := List.all_eq_true.mp h x hx
theorem allB_of {α : Type} {xs : List α} {f : α → Bool} (h : ∀ x ∈ xs, f x = true) : allB xs f = true := List.all_eq_true.mpr h
theorem allB_congr {α : Type} {xs : List α} {f g : α → Bool} (h : ∀ x ∈ xs, f x = g x) : allB xs f = allB xs g := by
  rw [Bool.eq_iff_iff, allB_eq, allB_eq, List.all_eq_true, List.all_eq_true]
  exact ⟨fun q x hx => by rw [← h x hx]; exact q x hx, fun q x hx => by rw [h x hx]; exact q x hx⟩
/-- a filter that leaves nothing -/
theorem filter_none {α : Type} (xs : List α) (f : α → Bool) : (xs.filter fun x => !f x).isEmpty = allB xs f := by
  rw [allB_eq, Bool.eq_iff_iff, List.isEmpty_iff, List.filter_eq_nil_iff, List.all_eq_true]
  simp
@[simp] theorem wipe_nil (env : Env) : wipe env [] = env := rfl
@[simp] theorem wipe_cons (env : Env) (i : Nat) (r : List Nat) : wipe env (i :: r) = (wipe env r).set i none := rfl
@[simp] theorem allD_map {α : Type} (f : α → Bool) (xs : List α) : allD [.list (xs.map fun x => PyData.bool (f x))] = some (.d (.bool (allB xs f))) := by
  show (bools (xs.map fun x => PyData.bool (f x))).map _ = _
  rw [bools_map, Option.map_some, List.all_map]; rfl
@[simp] theorem bi_all (x : List PyData) : bi .all x = allD x := rfl
@[simp] theorem bi_len (x : List PyData) : bi .len x = lenD x := rfl
@[simp] theorem len_list (x : List PyData) : lenD [.list x] = some (.d (.int x.length)) := rfl
@[simp] theorem len_tuple (x : List PyData) : lenD [.tuple x] = some (.d (.int x.length)) := rfl
@[simp] theorem len_str (x : Str) : lenD [.str x] = some (.d (.int x.length)) := rfl
theorem eqv_int (i j : Int) : PyData.eqv (.int i) (.int j) = (i == j) := by simp [PyData.eqv]
theorem depth_int (i : Int) : (PyData.int i).depth = 0 := by simp [PyData.depth]
@[simp] theorem cmp_eqI (i j : Int) : cmp .eq (.int i) (.int j) = some (i == j) := by simp [cmp, deep, depth_int, eqv_int]
@[simp] theorem cmp_neI (i j : Int) : cmp .ne (.int i) (.int j) = some (!(i == j)) := by simp [cmp, deep, depth_int, eqv_int]
@[simp] theorem cmp_leI (i j : Int) : cmp .le (.int i) (.int j) = some (decide (i ≤ j)) := rfl
@[simp] theorem cmp_ltI (i j : Int) : cmp .lt (.int i) (.int j) = some (decide (i < j)) := rfl
@[simp] theorem cmp_gtI (i j : Int) : cmp .gt (.int i) (.int j) = some (decide (j < i)) := rfl
@[simp] theorem cmp_geI (i j : Int) : cmp .ge (.int i) (.int j) = some (decide (j ≤ i)) := rfl
@[simp] theorem cmp_ltS (i j : Str) : cmp .lt (.str i) (.str j) = some (strLt i j) := rfl
theorem depth_nil : (PyData.list []).depth ≤ 64 := by simp [PyData.depth, PyData.depthAll]
theorem eqv_nil (xs : List PyData) : PyData.eqv (.list xs) (.list []) = xs.isEmpty := by cases xs <;> simp [PyData.eqv, PyData.eqvAll]
/-- empty, closed to simp -/
def emp {α : Type} (xs : List α) : Bool := xs.isEmpty
@[simp] theorem emp_map {α β : Type} (f : α → β) (xs : List α) : emp (xs.map f) = emp xs := by cases xs <;> rfl
@[simp] theorem emp_filter {α : Type} (xs : List α) (f : α → Bool) : emp (xs.filter fun x => !f x) = allB xs f := filter_none xs f
@[simp] theorem cmp_eqNil (xs : List PyData) : cmp .eq (.list xs) (.list []) = some (emp xs) := by
  have h := depth_nil
  have hd : deep (.list xs) (.list []) = true := decide_eq_true (by omega)
  simp only [cmp, hd, eqv_nil, if_true]
  rfl
@[simp] theorem cmp_neNil (xs : List PyData) : cmp .ne (.list xs) (.list []) = some (!emp xs) := by
  have h := depth_nil
  have hd : deep (.list xs) (.list []) = true := decide_eq_true (by omega)
  simp only [cmp, hd, eqv_nil, if_true]
  rfl
@[simp] theorem v_pop (call : Call) (i : Nat) (e : E) (env : Env) (m : Mem) : (sem call (.pop i e)).v env m = cPop i (sem call e) env m := rfl
theorem cPop_mr {p : P} {env : Env} {m m1 : Mem} {i k : Nat} {j : Int} {xs : List PyData} {y : PyData} (h1 : getV env i = some (.mr k)) (h2 : p.v env m = .ok (.d (.int j)) m1) (h3 : m1[k]? = some ⟨false, xs⟩) (h4 : 0 ≤ j) (h5 : j < xs.length) (h6 : xs[j.toNat]? = some y) :
    cPop i p env m = .ok (.d y) (m1.set k ⟨false, xs.eraseIdx j.toNat⟩) := by
  unfold cPop
  rw [h1]
  simp only [h2, Res.bind_ok, nf_d, rdR_d, h3]
  rw [if_pos ⟨by trivial, h4, h5⟩, h6]
@[simp] theorem bi_list (x : List PyData) : bi .list x = listD x := rfl
@[simp] theorem bi_tuple (x : List PyData) : bi .tuple x = tupleD x := rfl
@[simp] theorem listD_list (x : List PyData) : listD [.list x] = some (.fr x) := rfl
@[simp] theorem listD_tuple (x : List PyData) : listD [.tuple x] = some (.fr x) := rfl
@[simp] theorem listD_str (x : Str) : listD [.str x] = some (.fr (signs x)) := rfl
@[simp] theorem tupleD_list (x : List PyData) : tupleD [.list x] = some (.d (.tuple x)) := rfl
@[simp] theorem tupleD_tuple (x : List PyData) : tupleD [.tuple x] = some (.d (.tuple x)) := rfl
@[simp] theorem bi_min2 (i j : Int) : bi .min2 [.int i, .int j] = some (.d (.int (if j < i then j else i))) := rfl
@[simp] theorem bi_abs (i : Int) : bi .abs [.int i] = some (.d (.int (if i < 0 then -i else i))) := rfl
@[simp] theorem bi_intI (i : Int) : bi .int [.int i] = some (.d (.int i)) := rfl
@[simp] theorem bi_intB (b : Bool) : bi .int [.bool b] = some (.d (.int (if b then 1 else 0))) := rfl
theorem rangeD_len (n : Nat) : ∀ lo, (rangeD lo n).length = n := by
  induction n with
  | zero => intro lo; rfl
  | succ n ih => intro lo; rw [rangeD, List.length_cons, ih]
theorem rangeD_at (n : Nat) : ∀ (lo : Int) (i : Nat) (x : PyData), (rangeD lo n)[i]? = some x → x = .int (lo + i) ∧ i < n := by
  induction n with
  | zero => intro lo i x h; simp [rangeD] at h
  | succ n ih =>
    intro lo i x h
    rw [rangeD] at h
    cases i with
    | zero => simp at h; exact ⟨by rw [← h]; simp, by omega⟩
    | succ i =>
      obtain ⟨h1, h2⟩ := ih (lo + 1) i x (by simpa using h)
      exact ⟨by rw [h1, show lo + 1 + (i : Int) = lo + ((i + 1 : Nat) : Int) by omega], by omega⟩
mutual
theorem beqD_refl : ∀ x : PyData, beqD x x = true
  | .none => by simp [beqD]
  | .bool _ => by simp [beqD]
  | .int _ => by simp [beqD]
  | .str _ => by simp [beqD]
  | .list xs => by rw [beqD]; exact beqDs_refl xs
  | .tuple xs => by rw [beqD]; exact beqDs_refl xs
  | .dict xs => by rw [beqD]; exact beqPs_refl xs
theorem beqDs_refl : ∀ xs : List PyData, beqDs xs xs = true
  | [] => by simp [beqDs]
  | x :: xs => by rw [beqDs, beqD_refl x, beqDs_refl xs]; rfl
theorem beqPs_refl : ∀ xs : List (PyData × PyData), beqPs xs xs = true
  | [] => by simp [beqPs]
  | (x, u) :: xs => by rw [beqPs, beqD_refl x, beqD_refl u, beqPs_refl xs]; rfl
end
theorem same_of {m m' : Mem} : ∀ {gs : List Nat}, (∀ k ∈ gs, ∃ c c', m[k]? = some c ∧ m'[k]? = some c' ∧ c.xs = c'.xs) → same gs m m' = true
  | [], _ => rfl
  | k :: r, h => by
    obtain ⟨c, c', h1, h2, h3⟩ := h k List.mem_cons_self
    rw [same, h1, h2]
    simp only [h3, beqDs_refl, Bool.true_and]
    exact same_of fun j hj => h j (List.mem_cons_of_mem _ hj)
end Ra.M


set_option Elab.async false
set_option linter.all false
set_option maxRecDepth 100000
set_option maxHeartbeats 400000
namespace Ra.K0
open PySem M _root_.K0
abbrev T : List Fn := D.map Df.fnT
def signB : PyData → Bool
  | .str x => inStr x "abcdefghijklmnopqrstuvwxyz"
  | _ => false
def tagB : PyData → Bool
  | .str s => decide (1 ≤ s.length) && (decide (s.length ≤ 8) && allB (signs s) signB)
  | _ => false
def numB : PyData → Bool
  | .int _ => true
  | _ => false
theorem sp_number (wf n : Nat) (x : PyData) (m : Mem) : run T wf (n + 1) 0 [.d x] m = .ok (.d (.bool (numB x))) m := by
  rw [run_succ d_is_number.fnT rfl rfl (by decide)]
  cases x <;> simp [d_is_number, Df.fnT, b_is_number, isi, numB]
theorem sp_name (wf n : Nat) (x : PyData) (m : Mem) : run T wf (n + 1) 1 [.d x] m = .ok (.d (.bool (tagB x))) m := by
  rw [run_succ d_is_name.fnT rfl rfl (by decide)]
  cases x with
  | str s =>
    simp [d_is_name, Df.fnT, b_is_name, isi, wipe]
    rw [lcLoop_map (fun x => .bool (signB x)) rfl]
    · simp only [tagB]
      by_cases h1 : 1 ≤ s.length <;> by_cases h2 : s.length ≤ 8
      · have h1' : (1 : Int) ≤ s.length := by omega
        have h2' : (s.length : Int) ≤ 8 := by omega
        simp [h1, h2, h1', h2']
      · have h1' : (1 : Int) ≤ s.length := by omega
        have h2' : ¬ (s.length : Int) ≤ 8 := by omega
        simp [h1, h2, h1', h2']
      · have h1' : ¬ (1 : Int) ≤ s.length := by omega
        simp [h1, h1']
      · have h1' : ¬ (1 : Int) ≤ s.length := by omega
        simp [h1, h1']
    · intro x hx
      obtain ⟨c, _, rfl⟩ := List.mem_map.mp hx
      simp [one, cmp, inD, signB]
  | _ => simp [d_is_name, Df.fnT, b_is_name, isi, tagB]
/-! what the defs tell -/
def pairB : PyData → Bool
  | .tuple [_, _] => true
  | _ => false
def fst : PyData → PyData
  | .tuple (a :: _) => a
  | x => x
def snd : PyData → PyData
  | .tuple (_ :: b :: _) => b
  | x => x
def strOf : PyData → Str
  | .str s => s
  | _ => ⟨#[]⟩
def bitB : PyData → Bool
  | .int i => decide (0 ≤ i) && decide (i ≤ 1)
  | _ => false
def risB : List Str → Bool
  | x :: y :: r => strLt x y && risB (y :: r)
  | _ => true
def firsts (xs : List PyData) : List Str := xs.map fun p => strOf (fst p)
def condB : PyData → Bool
  | .tuple xs => allB xs pairB && (allB xs (fun p => tagB (fst p) && bitB (snd p)) && risB (firsts xs))
  | _ => false
def stepB : PyData → Bool
  | .tuple [a, b, .tuple rs, d, e] => tagB a && (tagB b && (tagB d && (condB e && allB rs tagB)))
  | _ => false
def planB : PyData → Bool
  | .tuple xs => allB xs stepB && risB (firsts xs)
  | _ => false
def countB : PyData → Bool
  | .tuple xs => allB xs pairB && (allB xs (fun p => tagB (fst p) && tagB (snd p)) && risB (firsts xs))
  | _ => false
theorem cut_one {α : Type} (xs : List α) : cut xs (some 1) none = xs.drop 1 := by
  cases xs with
  | nil => simp [cut]
  | cons x xs => simp [cut, HT.sIx]
theorem zip_strs : ∀ ks : List Str, allB (zipD (ks.map PyData.str) ((ks.map PyData.str).drop 1)) (fun p => strLt (strOf (fst p)) (strOf (snd p))) = risB ks
  | [] => rfl
  | [x] => rfl
  | x :: y :: r => by
    have ih := zip_strs (y :: r)
    simp only [List.map_cons, List.drop_succ_cons, List.drop_zero, allB_eq] at ih ⊢
    rw [zipD, List.all_cons, risB, ih]
    rfl
theorem zip_mem : ∀ {ks js : List Str} {p : PyData}, p ∈ zipD (ks.map PyData.str) (js.map PyData.str) → ∃ a b, p = .tuple [.str a, .str b]
  | [], _, _, h => by simp [zipD] at h
  | _ :: _, [], _, h => by simp [zipD] at h
  | x :: ks, y :: js, p, h => by
    simp only [List.map_cons, zipD, List.mem_cons] at h
    rcases h with h | h
    · exact ⟨x, y, h⟩
    · exact zip_mem h
theorem sp_rises (wf n : Nat) (ks : List Str) (m : Mem) : run T wf (n + 1) 2 [.d (.list (ks.map PyData.str))] m = .ok (.d (.bool (risB ks))) m := by
  rw [run_succ d_rises.fnT rfl rfl (by decide)]
  simp [d_rises, Df.fnT, b_rises, wipe, slc, cut_one]
  rw [lcLoop_map (fun p => .bool (strLt (strOf (fst p)) (strOf (snd p)))) rfl]
  · simp
    rw [← zip_strs ks, List.drop_one]
  · intro p hp
    rw [← List.map_tail] at hp
    obtain ⟨a, b, rfl⟩ := zip_mem hp
    simp [strOf, fst, snd]
/-- a list of pairs -/
theorem pairB_ok {p : PyData} (h : pairB p = true) : ∃ a b, p = .tuple [a, b] := by
  unfold pairB at h
  split at h
  · exact ⟨_, _, rfl⟩
  · cases h
theorem pairB_eq (p : PyData) : (isi p .tuple && match p with | .tuple xs => xs.length == 2 | _ => false) = pairB p := by
  cases p with
  | tuple xs =>
    rcases xs with _ | ⟨a, _ | ⟨b, _ | ⟨c, r⟩⟩⟩ <;> simp [isi, pairB]
  | _ => simp [isi, pairB]
theorem tag_str {p : PyData} (h : tagB p = true) : ∃ s, p = .str s := by
  unfold tagB at h
  split at h
  · exact ⟨_, rfl⟩
  · cases h
theorem firsts_str : ∀ {xs : List PyData}, (∀ p ∈ xs, tagB (fst p) = true) → xs.map fst = (firsts xs).map PyData.str
  | [], _ => rfl
  | p :: xs, h => by
    obtain ⟨s, hs⟩ := tag_str (h p List.mem_cons_self)
    have ih := firsts_str (xs := xs) fun q hq => h q (List.mem_cons_of_mem _ hq)
    simp only [List.map_cons, firsts, hs, strOf] at ih ⊢
    rw [ih]
theorem sp_cond (wf n : Nat) (x : PyData) (m : Mem) : run T wf (n + 2) 3 [.d x] m = .ok (.d (.bool (condB x))) m := by
  rw [run_succ d_is_condition.fnT rfl rfl (by decide)]
  cases x with
  | tuple xs =>
    simp [d_is_condition, Df.fnT, b_is_condition, isi, wipe]
    rw [lcLoop_map (fun p => .bool (pairB p)) rfl]
    · simp
      simp only [condB]
      cases h1 : allB xs pairB with
      | false => simp
      | true =>
        have hp : ∀ p ∈ xs, ∃ a b, p = .tuple [a, b] := fun p hp => pairB_ok (allB_at h1 hp)
        simp
        rw [lcLoop_map (fun p => .bool (tagB (fst p) && bitB (snd p))) rfl]
        · simp
          cases h2 : allB xs (fun p => tagB (fst p) && bitB (snd p)) with
          | false => simp
          | true =>
            have ht : ∀ p ∈ xs, tagB (fst p) = true := fun p hp => (Bool.and_eq_true_iff.mp (allB_at h2 hp)).1
            simp
            rw [lcLoop_map fst rfl]
            · simp [firsts_str ht, sp_rises]
            · intro p h
              obtain ⟨a, b, rfl⟩ := hp p h
              simp [fst]
        · intro p h
          obtain ⟨a, b, rfl⟩ := hp p h
          simp [fst, snd, sp_name, sp_number]
          cases tagB a with
          | false => simp
          | true =>
            cases b with
            | int i => by_cases h1 : 0 ≤ i <;> simp [numB, bitB, h1]
            | _ => simp [numB, bitB]
    · intro p h
      simp
      cases p with
      | tuple ys => 
        rcases ys with _ | ⟨a, _ | ⟨b, _ | ⟨c, r⟩⟩⟩ <;> simp [isi, pairB]
        omega
      | _ => simp [isi, pairB]
  | _ => simp [d_is_condition, Df.fnT, b_is_condition, isi, condB]
end Ra.K0


set_option Elab.async false
set_option linter.all false
set_option maxRecDepth 100000
set_option maxHeartbeats 400000
namespace Ra.K0
open PySem M _root_.K0
theorem sp_step (wf n : Nat) (x : PyData) (m : Mem) : run T wf (n + 3) 4 [.d x] m = .ok (.d (.bool (stepB x))) m := by
  rw [run_succ d_is_step.fnT rfl rfl (by decide)]
  cases x with
  | tuple xs =>
    rcases xs with _ | ⟨a, _ | ⟨b, _ | ⟨c, _ | ⟨d, _ | ⟨e, _ | ⟨f, r⟩⟩⟩⟩⟩⟩
    case cons.cons.cons.cons.cons.nil =>
      simp [d_is_step, Df.fnT, b_is_step, isi, sp_name, sp_cond]
      cases ha : tagB a with
      | false => cases c <;> simp [stepB, ha]
      | true =>
        cases hb : tagB b with
        | false => cases c <;> simp [stepB, ha, hb]
        | true =>
          cases hd : tagB d with
          | false => cases c <;> simp [stepB, ha, hb, hd]
          | true =>
            cases he : condB e with
            | false => cases c <;> simp [stepB, ha, hb, hd, he]
            | true =>
              cases c with
              | tuple rs =>
                simp [isi]
                rw [lcLoop_map (fun p => .bool (tagB p)) rfl]
                · simp [stepB, ha, hb, hd, he]
                · intro p hp
                  simp [sp_name]
              | _ => simp [stepB, ha, hb, hd, he, isi]
    case cons.cons.cons.cons.cons.cons =>
      have h : ¬ ((r.length : Int) + 1 + 1 + 1 + 1 + 1 + 1 = 5) := by omega
      simp [d_is_step, Df.fnT, b_is_step, isi, stepB, h]
    all_goals simp [d_is_step, Df.fnT, b_is_step, isi, stepB]
  | _ => simp [d_is_step, Df.fnT, b_is_step, isi, stepB]
theorem step_fst {p : PyData} (h : stepB p = true) : ∃ a b c d e, p = .tuple [a, b, c, d, e] ∧ tagB a = true := by
  unfold stepB at h
  split at h
  · simp only [Bool.and_eq_true] at h
    exact ⟨_, _, _, _, _, rfl, h.1⟩
  · cases h
theorem idx0 (a : PyData) (r : List PyData) : idx (.tuple (a :: r)) (.int 0) = some a := by simp [idx, L2.atI, L2.ixN]
theorem sp_plan (wf n : Nat) (x : PyData) (m : Mem) : run T wf (n + 4) 5 [.d x] m = .ok (.d (.bool (planB x))) m := by
  rw [run_succ d_is_plan.fnT rfl rfl (by decide)]
  cases x with
  | tuple xs =>
    simp [d_is_plan, Df.fnT, b_is_plan, isi]
    rw [lcLoop_map (fun p => .bool (stepB p)) rfl]
    · simp [planB]
      cases h1 : allB xs stepB with
      | false => simp
      | true =>
        have ht : ∀ p ∈ xs, tagB (fst p) = true := fun p hp => by
          obtain ⟨a, b, c, d, e, rfl, h⟩ := step_fst (allB_at h1 hp)
          exact h
        simp
        rw [lcLoop_map fst rfl]
        · simp [firsts_str ht, sp_rises]
        · intro p hp
          obtain ⟨a, b, c, d, e, rfl, h⟩ := step_fst (allB_at h1 hp)
          simp [fst, idx0]
    · intro p hp
      simp [sp_step]
  | _ => simp [d_is_plan, Df.fnT, b_is_plan, isi, planB]
theorem sp_counts (wf n : Nat) (x : PyData) (m : Mem) : run T wf (n + 2) 6 [.d x] m = .ok (.d (.bool (countB x))) m := by
  rw [run_succ d_is_counts.fnT rfl rfl (by decide)]
  cases x with
  | tuple xs =>
    simp [d_is_counts, Df.fnT, b_is_counts, isi]
    rw [lcLoop_map (fun p => .bool (pairB p)) rfl]
    · simp [countB]
      cases h1 : allB xs pairB with
      | false => simp
      | true =>
        have hp : ∀ p ∈ xs, ∃ a b, p = .tuple [a, b] := fun p hp => pairB_ok (allB_at h1 hp)
        simp
        rw [lcLoop_map (fun p => .bool (tagB (fst p) && tagB (snd p))) rfl]
        · simp
          cases h2 : allB xs (fun p => tagB (fst p) && tagB (snd p)) with
          | false => simp
          | true =>
            have ht : ∀ p ∈ xs, tagB (fst p) = true := fun p hp => (Bool.and_eq_true_iff.mp (allB_at h2 hp)).1
            simp
            rw [lcLoop_map fst rfl]
            · simp [firsts_str ht, sp_rises]
            · intro p h
              obtain ⟨a, b, rfl⟩ := hp p h
              simp [fst, idx0]
        · intro p h
          obtain ⟨a, b, rfl⟩ := hp p h
          simp [fst, snd, sp_name]
          cases tagB a <;> simp
    · intro p h
      simp
      cases p with
      | tuple ys => 
        rcases ys with _ | ⟨a, _ | ⟨b, _ | ⟨c, r⟩⟩⟩ <;> simp [isi, pairB]
        omega
      | _ => simp [isi, pairB]
  | _ => simp [d_is_counts, Df.fnT, b_is_counts, isi, countB]
end Ra.K0


set_option Elab.async false
set_option linter.all false
set_option maxRecDepth 100000
set_option maxHeartbeats 400000
namespace Ra.K0
open PySem M _root_.K0
/-! rising rows of texts -/
theorem strLt_trans {x y z : Str} (h1 : strLt x y = true) (h2 : strLt y z = true) : strLt x z = true := by
  simp only [strLt, decide_eq_true_eq] at *
  exact List.lt_trans h1 h2
theorem strLt_ne {x y : Str} (h : strLt x y = true) : x ≠ y := by
  rintro rfl
  simp only [strLt, decide_eq_true_eq] at h
  exact List.lt_irrefl _ h
theorem ris_pair : ∀ {ks : List Str}, risB ks = true ↔ ks.Pairwise fun a b => strLt a b = true
  | [] => by simp [risB]
  | [x] => by simp [risB]
  | x :: y :: r => by
    rw [risB, Bool.and_eq_true, ris_pair (ks := y :: r), List.pairwise_cons (a := x)]
    constructor
    · rintro ⟨h1, h2⟩
      refine ⟨fun z hz => ?_, h2⟩
      rcases List.mem_cons.mp hz with rfl | hz
      · exact h1
      · exact strLt_trans h1 ((List.pairwise_cons.mp h2).1 z hz)
    · rintro ⟨h1, h2⟩
      exact ⟨h1 y List.mem_cons_self, h2⟩
theorem firstS_nodup : ∀ {ks L : List Str}, (L ++ ks).Nodup → firstS L ks = L ++ ks
  | [], L, _ => by simp [firstS]
  | k :: ks, L, h => by
    have hk : k ∉ L := fun hm => by
      have := List.nodup_append.mp h
      exact this.2.2 k hm k List.mem_cons_self rfl
    rw [firstS, if_neg hk, firstS_nodup (by simpa using h)]
    simp
theorem firstS_isNodup : ∀ {ks L : List Str}, L.Nodup → (firstS L ks).Nodup
  | [], _, h => h
  | k :: ks, L, h => by
    rw [firstS]
    split
    · exact firstS_isNodup h
    · rename_i hk
      refine firstS_isNodup (List.nodup_append.mpr ⟨h, by simp, fun x hx y hy => ?_⟩)
      rw [List.mem_singleton.mp hy]
      rintro rfl
      exact hk hx
theorem firstS_mem {x : Str} : ∀ {ks L : List Str}, x ∈ firstS L ks ↔ x ∈ L ∨ x ∈ ks
  | [], L => by simp [firstS]
  | k :: ks, L => by
    rw [firstS, firstS_mem]
    by_cases h : k ∈ L
    · simp only [h, if_true, List.mem_cons]
      constructor
      · rintro (q | q)
        · exact .inl q
        · exact .inr (.inr q)
      · rintro (q | rfl | q)
        · exact .inl q
        · exact .inl h
        · exact .inr q
    · simp [h, or_assoc]
theorem isort_map (L : List Str) : ∃ M : List Str, isort [] (L.map PyData.str) = M.map PyData.str ∧ M.Perm L := by
  have hp := isort_perm (L.map PyData.str) []
  rw [List.nil_append] at hp
  have : ∀ (xs : List PyData), (∀ x ∈ xs, ∃ s, x = PyData.str s) → xs = (xs.map strOf).map PyData.str := by
    intro xs
    induction xs with
    | nil => intro _; rfl
    | cons x xs ih =>
      intro h
      obtain ⟨s, rfl⟩ := h _ List.mem_cons_self
      simp only [List.map_cons, strOf]
      rw [← ih fun y hy => h y (List.mem_cons_of_mem _ hy)]
  refine ⟨(isort [] (L.map PyData.str)).map strOf, this _ fun x hx => ?_, ?_⟩
  · obtain ⟨s, _, rfl⟩ := List.mem_map.mp (hp.mem_iff.mp hx)
    exact ⟨s, rfl⟩
  · have q := hp.map strOf
    rw [List.map_map] at q
    have e : (strOf ∘ PyData.str) = id := rfl
    rw [e, List.map_id] at q
    exact q
theorem str_ext {x y : Str} (h : x.cps.toList = y.cps.toList) : x = y := PySem.W.str_of_cps h
theorem strLt_of {x y : Str} (h : dle (.str x) (.str y) = true) (hn : x ≠ y) : strLt x y = true := by
  rw [dle_str, decide_eq_true_eq] at h
  simp only [strLt, decide_eq_true_eq]
  rcases Decidable.em (x.cps.toList < y.cps.toList) with q | q
  · exact q
  · exact absurd (str_ext (List.le_antisymm h q)) hn
theorem strLt_le {x y : Str} (h : strLt x y = true) : dle (.str x) (.str y) = true := by
  rw [dle_str, decide_eq_true_eq]
  simp only [strLt, decide_eq_true_eq] at h
  exact List.le_of_lt h
/-- rising texts stand as they are sorted -/
theorem isort_ris {ks : List Str} (h : risB ks = true) : isort [] (ks.map PyData.str) = ks.map PyData.str := by
  have hp := ris_pair.mp h
  refine sorted_unique (fun x hx y hy => ?_) (isort_sorted _ _ .nil) ?_ (isort_perm _ [])
  · have hx := (isort_perm _ _).mem_iff.mp hx
    have hy := (isort_perm _ _).mem_iff.mp hy
    obtain ⟨a, _, rfl⟩ := List.mem_map.mp hx
    obtain ⟨b, _, rfl⟩ := List.mem_map.mp hy
    exact dle_anti
  · rw [List.pairwise_map]
    exact hp.imp strLt_le
theorem ris_of_sorted {M : List Str} (h : (M.map PyData.str).Pairwise fun a b => dle a b = true) (nd : M.Nodup) : risB M = true := by
  rw [ris_pair]
  rw [List.pairwise_map] at h
  exact (h.and nd).imp fun ⟨a, b⟩ => strLt_of a b
theorem ris_set (ks M : List Str) (hM : isort [] ((firstS [] ks).map PyData.str) = M.map PyData.str) (hp : M.Perm (firstS [] ks)) : decide (ks = M) = risB ks := by
  have hr : risB M = true := by
    refine ris_of_sorted ?_ (hp.nodup_iff.mpr (firstS_isNodup .nil))
    rw [← hM]
    exact isort_sorted _ _ .nil
  cases h : risB ks with
  | true =>
    rw [decide_eq_true_eq]
    have nd : ks.Nodup := (ris_pair.mp h).imp strLt_ne
    have e := firstS_nodup (ks := ks) (L := []) (by simpa using nd)
    rw [e, List.nil_append, isort_ris h] at hM
    exact (List.map_inj_right (f := PyData.str) fun x y e => by cases e; rfl).mp hM
  | false =>
    rw [decide_eq_false_iff_not]
    rintro rfl
    rw [hr] at h
    cases h
theorem alike_strs (L : List Str) : allAlike (L.map PyData.str) = true := by
  unfold allAlike
  simp [PySem.W.alike]
theorem sortable_strs (L : List Str) : sortable (L.map PyData.str) = true := by
  unfold sortable
  simp [isPlainC]
theorem depth_strs : ∀ L : List Str, PyData.depthAll (L.map PyData.str) = 0
  | [] => by simp [PyData.depthAll]
  | x :: L => by
    have := depth_strs L
    simp only [List.map_cons, PyData.depthAll, PyData.depth, this]
    rfl
theorem allStr_strs : ∀ L : List Str, allStr (L.map PyData.str) = true
  | [] => rfl
  | _ :: L => allStr_strs L
theorem sortedset_strs (ks : List Str) (h : ks.length < 4000) : bi .sortedset [.list (ks.map PyData.str)] = some (.fr (isort [] ((firstS [] ks).map PyData.str))) := by
  rw [show ∀ z, bi .sortedset z = sortedsetD z from fun _ => rfl]
  unfold sortedsetD
  simp only
  rw [if_pos ⟨allStr_strs ks, by simpa using h⟩]
  have e := dedup_strs ks []
  simp only [List.reverse_nil, List.map_nil] at e
  rw [e]
  unfold sortD
  simp [alike_strs, sortable_strs, depth_strs]
theorem eqvAll_strs : ∀ ks js : List Str, PyData.eqvAll (ks.map PyData.str) (js.map PyData.str) = decide (ks = js)
  | [], [] => by simp [PyData.eqvAll]
  | [], _ :: _ => by simp [PyData.eqvAll]
  | _ :: _, [] => by simp [PyData.eqvAll]
  | k :: ks, j :: js => by
    simp only [List.map_cons, PyData.eqvAll, eqvAll_strs ks js, eqv_str, List.cons.injEq]
    by_cases h : k = j <;> simp [h]
theorem cmp_strs (ks js : List Str) : cmp .eq (.list (ks.map PyData.str)) (.list (js.map PyData.str)) = some (decide (ks = js)) := by
  have h : (PyData.list (ks.map PyData.str)).depth ≤ 64 := by simp [PyData.depth, depth_strs]
  have hd : deep (.list (ks.map PyData.str)) (.list (js.map PyData.str)) = true := decide_eq_true (by omega)
  show (if deep _ _ = true then _ else none) = _
  rw [if_pos hd]
  simp [PyData.eqv, eqvAll_strs]
/-! the law's own look -/
theorem sp_lrises (wf n : Nat) (ks : List Str) (h : ks.length < 4000) (m : Mem) : run T wf (n + 1) 17 [.d (.list (ks.map PyData.str))] m = .ok (.d (.bool (risB ks))) m := by
  rw [run_succ d__law_rises.fnT rfl rfl (by decide)]
  obtain ⟨M, hM, hp⟩ := isort_map (firstS [] ks)
  simp [d__law_rises, Df.fnT, b__law_rises, sortedset_strs ks h, hM, cmp_strs, ris_set ks M hM hp]
theorem sp_tag (wf n : Nat) (x : PyData) (m : Mem) : run T wf (n + 1) 16 [.d x] m = .ok (.d (.bool (tagB x))) m := by
  rw [run_succ d__law_is_tag.fnT rfl rfl (by decide)]
  cases x with
  | str s =>
    simp [d__law_is_tag, Df.fnT, b__law_is_tag, isi]
    rw [lcLoop_pure (fun x => !signB x) id rfl]
    · simp only [tagB]
      by_cases h1 : 1 ≤ s.length <;> by_cases h2 : s.length ≤ 8
      · have h1' : ¬ (s.length : Int) < 1 := by omega
        have h2' : ¬ 8 < (s.length : Int) := by omega
        simp [h1, h2, h1', h2']
      · have h1' : ¬ (s.length : Int) < 1 := by omega
        have h2' : 8 < (s.length : Int) := by omega
        simp [h1, h2, h1', h2']
      · have h1' : (s.length : Int) < 1 := by omega
        simp [h1, h1']
      · have h1' : (s.length : Int) < 1 := by omega
        simp [h1, h1']
    · intro x hx
      obtain ⟨c, _, rfl⟩ := List.mem_map.mp hx
      simp [one, cmp, inD, signB]
  | _ => simp [d__law_is_tag, Df.fnT, b__law_is_tag, isi, tagB]
theorem sp_pairs (wf n : Nat) (x : PyData) (m : Mem) : run T wf (n + 1) 18 [.d x] m = .ok (.d (.bool (match x with | .tuple xs => allB xs pairB | _ => false))) m := by
  rw [run_succ d__law_are_pairs.fnT rfl rfl (by decide)]
  cases x with
  | tuple xs =>
    simp [d__law_are_pairs, Df.fnT, b__law_are_pairs, isi]
    rw [lcLoop_pure (fun x => !pairB x) id rfl]
    · simp
    · intro p hp
      simp
      cases p with
      | tuple ys => 
        rcases ys with _ | ⟨a, _ | ⟨b, _ | ⟨c, r⟩⟩⟩ <;> simp [isi, pairB]
        omega
      | _ => simp [isi, pairB]
  | _ => simp [d__law_are_pairs, Df.fnT, b__law_are_pairs, isi]
end Ra.K0


set_option Elab.async false
set_option linter.all false
set_option maxRecDepth 100000
set_option maxHeartbeats 400000
namespace Ra.K0
open PySem M _root_.K0
mutual
/-- no great rows, no dicts -/
def niceB : PyData → Bool
  | .list xs => decide (xs.length < 4000) && niceAll xs
  | .tuple xs => decide (xs.length < 4000) && niceAll xs
  | .dict _ => false
  | _ => true
def niceAll : List PyData → Bool
  | [] => true
  | x :: r => niceB x && niceAll r
end
/-- data that both sides can look at -/
structure Nice (x : PyData) : Prop where
  n : niceB x = true
  d : x.depth ≤ 64
theorem niceAll_at : ∀ {xs : List PyData}, niceAll xs = true → ∀ x ∈ xs, niceB x = true
  | [], _, x, h => by cases h
  | y :: r, h, x, hx => by
    rw [niceAll, Bool.and_eq_true] at h
    rcases List.mem_cons.mp hx with rfl | hx
    · exact h.1
    · exact niceAll_at h.2 x hx
theorem niceAll_of : ∀ {xs : List PyData}, (∀ x ∈ xs, niceB x = true) → niceAll xs = true
  | [], _ => by simp [niceAll]
  | y :: r, h => by
    rw [niceAll, Bool.and_eq_true]
    exact ⟨h y List.mem_cons_self, niceAll_of fun x hx => h x (List.mem_cons_of_mem _ hx)⟩
theorem Nice.tup {xs : List PyData} (h : Nice (.tuple xs)) : xs.length < 4000 ∧ ∀ x ∈ xs, Nice x := by
  have h1 := h.n
  rw [niceB, Bool.and_eq_true, decide_eq_true_eq] at h1
  have h2 := h.d
  rw [PyData.depth] at h2
  exact ⟨h1.1, fun x hx => ⟨niceAll_at h1.2 x hx, by have := depth_le hx; omega⟩⟩
def inBits (x : PyData) : Bool := [PyData.int 0, .int 1].any fun y => PyData.eqv y x
theorem bit_eq {x : PyData} (h : Nice x) : inD x (.tuple [.int 0, .int 1]) = some (inBits x) := by
  cases x <;> simp [inD, inAll, h.d, inBits]
theorem bit_is (x : PyData) : (numB x && inBits x) = bitB x := by
  cases x with
  | int i =>
    simp only [numB, bitB, inBits, List.any_cons, List.any_nil, eqv_int]
    by_cases h0 : i = 0
    · subst h0; rfl
    · by_cases h1 : i = 1
      · subst h1; rfl
      · have a : ((0 : Int) == i) = false := by simpa using fun e : 0 = i => h0 e.symm
        have b : ((1 : Int) == i) = false := by simpa using fun e : 1 = i => h1 e.symm
        rw [a, b]
        by_cases h2 : 0 ≤ i
        · have : ¬ i ≤ 1 := by omega
          simp [this]
        · simp [h2]
  | _ => simp [numB, bitB]
theorem idx1 (a b : PyData) (r : List PyData) : idx (.tuple (a :: b :: r)) (.int 1) = some b := by
  have : (1 : Int) < r.length + 1 + 1 := by omega
  simp [idx, L2.atI, L2.ixN, this]
theorem all_and {α : Type} (xs : List α) (f g : α → Bool) : allB xs (fun x => f x && g x) = (allB xs f && allB xs g) := by
  rw [Bool.eq_iff_iff, Bool.and_eq_true]
  constructor
  · intro h
    exact ⟨allB_of fun x hx => (Bool.and_eq_true_iff.mp (allB_at h hx)).1, allB_of fun x hx => (Bool.and_eq_true_iff.mp (allB_at h hx)).2⟩
  · rintro ⟨h1, h2⟩
    exact allB_of fun x hx => Bool.and_eq_true_iff.mpr ⟨allB_at h1 hx, allB_at h2 hx⟩
theorem firsts_len (xs : List PyData) : (firsts xs).length = xs.length := by simp [firsts]
theorem sp_on (wf n : Nat) (x : PyData) (hx : Nice x) (m : Mem) : run T wf (n + 2) 19 [.d x] m = .ok (.d (.bool (condB x))) m := by
  rw [run_succ d__law_is_on.fnT rfl rfl (by decide)]
  cases x with
  | tuple xs =>
    obtain ⟨hl, hn⟩ := hx.tup
    simp [d__law_is_on, Df.fnT, b__law_is_on, sp_pairs, condB]
    cases h1 : allB xs pairB with
    | false => simp
    | true =>
      have hp : ∀ p ∈ xs, ∃ a b, p = .tuple [a, b] := fun p hp => pairB_ok (allB_at h1 hp)
      simp
      rw [lcLoop_pure (fun p => !tagB (fst p)) id rfl]
      · simp
        rw [all_and]
        cases h2 : allB xs (fun p => tagB (fst p)) with
        | false => simp
        | true =>
          simp
          rw [lcLoop_pure (fun p => !numB (snd p)) snd rfl]
          · simp
            rw [lcLoop_pure (fun p => !inBits (snd p)) snd rfl]
            · have ht : ∀ p ∈ xs, tagB (fst p) = true := fun p hp => allB_at h2 hp
              have e3 : allB xs (fun p => bitB (snd p)) = (allB xs (fun p => numB (snd p)) && allB xs (fun p => inBits (snd p))) := by
                rw [← all_and]
                exact allB_congr fun p _ => (bit_is (snd p)).symm
              rw [e3]
              simp
              cases allB xs (fun p => numB (snd p)) with
              | false => simp
              | true =>
                cases allB xs (fun p => inBits (snd p)) with
                | false => simp
                | true =>
                  simp
                  rw [lcLoop_map fst rfl]
                  · simp [firsts_str ht, sp_lrises wf n (firsts xs) (by rw [firsts_len]; exact hl)]
                  · intro p h
                    obtain ⟨a, b, rfl⟩ := hp p h
                    simp [fst, idx0]
            · intro p h
              obtain ⟨a, b, rfl⟩ := hp p h
              have hb := bit_eq ((hn _ h).tup.2 b (by simp))
              simp [snd, idx1, cmp, hb]
          · intro p h
            obtain ⟨a, b, rfl⟩ := hp p h
            simp [snd, idx1]
            cases b <;> simp [isi, numB]
      · intro p h
        obtain ⟨a, b, rfl⟩ := hp p h
        simp [fst, idx0, sp_tag]
  | _ => simp [d__law_is_on, Df.fnT, b__law_is_on, sp_pairs, condB]
theorem idx2 (a b c : PyData) (r : List PyData) : idx (.tuple (a :: b :: c :: r)) (.int 2) = some c := by
  have : (2 : Int) < r.length + 1 + 1 + 1 := by omega
  simp [idx, L2.atI, L2.ixN, this]
theorem idx3 (a b c d : PyData) (r : List PyData) : idx (.tuple (a :: b :: c :: d :: r)) (.int 3) = some d := by
  have : (3 : Int) < r.length + 1 + 1 + 1 + 1 := by omega
  simp [idx, L2.atI, L2.ixN, this]
theorem idx4 (a b c d e : PyData) (r : List PyData) : idx (.tuple (a :: b :: c :: d :: e :: r)) (.int 4) = some e := by
  have : (4 : Int) < r.length + 1 + 1 + 1 + 1 + 1 := by omega
  simp [idx, L2.atI, L2.ixN, this]
theorem allB_append {α : Type} (xs ys : List α) (f : α → Bool) : allB (xs ++ ys) f = (allB xs f && allB ys f) := List.all_append
theorem allB_cons {α : Type} (x : α) (xs : List α) (f : α → Bool) : allB (x :: xs) f = (f x && allB xs f) := rfl
theorem addT (xs ys : List PyData) (h : xs.length + ys.length ≤ lim) : bop .add (.tuple xs) (.tuple ys) = some (.d (.tuple (xs ++ ys))) := by
  show (if xs.length + ys.length ≤ lim then _ else _) = _
  rw [if_pos h]
theorem sp_bit (wf n : Nat) (x : PyData) (hx : Nice x) (m : Mem) : run T wf (n + 3) 20 [.d x] m = .ok (.d (.bool (stepB x))) m := by
  rw [run_succ d__law_is_bit.fnT rfl rfl (by decide)]
  cases x with
  | tuple xs =>
    obtain ⟨hl, hn⟩ := hx.tup
    rcases xs with _ | ⟨a, _ | ⟨b, _ | ⟨c, _ | ⟨d, _ | ⟨e, _ | ⟨f, r⟩⟩⟩⟩⟩⟩
    case cons.cons.cons.cons.cons.nil =>
      simp [d__law_is_bit, Df.fnT, b__law_is_bit, isi, idx2]
      cases c with
      | tuple rs =>
        have hr := (hn (.tuple rs) (by simp)).tup.1
        simp [isi, idx0, idx1, idx2, idx3, idx4]
        rw [addT _ _ (by simp [lim]; omega)]
        simp
        rw [lcLoop_pure (fun p => !tagB p) id rfl]
        · have ho := sp_on wf n e (hn e (by simp))
          simp [allB_cons, stepB]
          cases tagB a <;> cases tagB b <;> cases tagB d <;> cases allB rs tagB <;> simp [idx4, ho]
        · intro p hp
          simp [sp_tag]
      | _ => simp [isi, stepB]
    case cons.cons.cons.cons.cons.cons =>
      have h : ¬ ((r.length : Int) + 1 + 1 + 1 + 1 + 1 + 1 = 5) := by omega
      simp [d__law_is_bit, Df.fnT, b__law_is_bit, isi, stepB, h]
    all_goals simp [d__law_is_bit, Df.fnT, b__law_is_bit, isi, stepB]
  | _ => simp [d__law_is_bit, Df.fnT, b__law_is_bit, isi, stepB]
theorem sp_form0 (wf n : Nat) (x : PyData) (hx : Nice x) (m : Mem) : run T wf (n + 4) 21 [.d x] m = .ok (.d (.bool (planB x))) m := by
  rw [run_succ d__law_is_form.fnT rfl rfl (by decide)]
  cases x with
  | tuple xs =>
    obtain ⟨hl, hn⟩ := hx.tup
    simp [d__law_is_form, Df.fnT, b__law_is_form, isi]
    rw [lcLoop_pure (fun p => !stepB p) id rfl]
    · simp [planB]
      cases h1 : allB xs stepB with
      | false => simp
      | true =>
        have ht : ∀ p ∈ xs, tagB (fst p) = true := fun p hp => by
          obtain ⟨a, b, c, d, e, rfl, h⟩ := step_fst (allB_at h1 hp)
          exact h
        simp
        rw [lcLoop_map fst rfl]
        · simp [firsts_str ht, sp_lrises wf (n + 2) (firsts xs) (by rw [firsts_len]; exact hl)]
        · intro p hp
          obtain ⟨a, b, c, d, e, rfl, h⟩ := step_fst (allB_at h1 hp)
          simp [fst, idx0]
    · intro p hp
      simp [sp_bit wf n p (hn p hp)]
  | _ => simp [d__law_is_form, Df.fnT, b__law_is_form, isi, planB]
theorem sp_stock0 (wf n : Nat) (x : PyData) (hx : Nice x) (m : Mem) : run T wf (n + 2) 22 [.d x] m = .ok (.d (.bool (countB x))) m := by
  rw [run_succ d__law_is_stock.fnT rfl rfl (by decide)]
  cases x with
  | tuple xs =>
    obtain ⟨hl, hn⟩ := hx.tup
    simp [d__law_is_stock, Df.fnT, b__law_is_stock, sp_pairs, countB]
    cases h1 : allB xs pairB with
    | false => simp
    | true =>
      have hp : ∀ p ∈ xs, ∃ a b, p = .tuple [a, b] := fun p hp => pairB_ok (allB_at h1 hp)
      simp
      rw [lcLoop_pure (fun p => !(tagB (fst p) && tagB (snd p))) id rfl]
      · simp only [Res.bind_ok, nf_fr, v_lst, cItems_nil, rdR_d, cmp_neNil, emp_map, emp_filter, optR_some, boolR_eq, truR_bool]
        cases h2 : allB xs (fun p => tagB (fst p) && tagB (snd p)) with
        | false => simp
        | true =>
          have ht : ∀ p ∈ xs, tagB (fst p) = true := fun p hp => (Bool.and_eq_true_iff.mp (allB_at h2 hp)).1
          simp
          rw [lcLoop_map fst rfl]
          · simp [firsts_str ht, sp_lrises wf n (firsts xs) (by rw [firsts_len]; exact hl)]
          · intro p h
            obtain ⟨a, b, rfl⟩ := hp p h
            simp [fst, idx0]
      · intro p h
        obtain ⟨a, b, rfl⟩ := hp p h
        simp [fst, snd, idx0, idx1, sp_tag]
        cases tagB a <;> simp
  | _ => simp [d__law_is_stock, Df.fnT, b__law_is_stock, sp_pairs, countB]
end Ra.K0


set_option Elab.async false
set_option linter.all false
set_option maxRecDepth 100000
set_option maxHeartbeats 800000
namespace Ra.K0
open PySem M _root_.K0
/-- the box of draws -/
def box (a b c : Int) : Cell := ⟨false, [.int a, .int b, .int c]⟩
def Bx (k N : Nat) (m : Mem) : Prop := ∃ a b c : Int, m[k]? = some (box a b c) ∧ 0 ≤ a ∧ 0 ≤ b ∧ b < 4611686018427387904 ∧ 0 ≤ c ∧ c ≤ N
/-- but for the box all cells are as they were -/
def Up (k : Nat) (m m' : Mem) : Prop := m'.length = m.length ∧ ∀ j, j ≠ k → m'[j]? = m[j]?
theorem Up.refl (k : Nat) (m : Mem) : Up k m m := ⟨rfl, fun _ _ => rfl⟩
theorem Up.trans {k : Nat} {m m' m'' : Mem} (a : Up k m m') (b : Up k m' m'') : Up k m m'' := ⟨b.1.trans a.1, fun j h => (b.2 j h).trans (a.2 j h)⟩
theorem Up.set (k : Nat) (m : Mem) (c : Cell) : Up k m (m.set k c) := ⟨List.length_set, fun j h => by rw [List.getElem?_set_ne (fun e => h e.symm)]⟩
theorem Bx.mono {k N N' : Nat} {m : Mem} (h : Bx k N m) (l : N ≤ N') : Bx k N' m := by
  obtain ⟨a, b, c, h1, h2, h3, h4, h5, h6⟩ := h
  exact ⟨a, b, c, h1, h2, h3, h4, h5, by omega⟩
theorem Bx.lt {k N : Nat} {m : Mem} (h : Bx k N m) : k < m.length := by
  obtain ⟨a, b, c, h1, _⟩ := h
  exact (List.getElem?_eq_some_iff.mp h1).1
theorem bx_set {k N : Nat} {m : Mem} {a b c : Int} (hk : k < m.length) (h2 : 0 ≤ a) (h3 : 0 ≤ b) (h4 : b < 4611686018427387904) (h5 : 0 ≤ c) (h6 : c ≤ N) : Bx k N (m.set k (box a b c)) :=
  ⟨a, b, c, List.getElem?_set_self hk, h2, h3, h4, h5, h6⟩
@[simp] theorem addI (i j : Int) : bop .add (.int i) (.int j) = some (.d (.int (i + j))) := rfl
@[simp] theorem subI (i j : Int) : bop .sub (.int i) (.int j) = some (.d (.int (i - j))) := rfl
theorem mulI {i j : Int} (h : small64 i = true ∨ small64 j = true) : bop .mul (.int i) (.int j) = some (.d (.int (i * j))) := by
  show (if (small64 i || small64 j) = true then _ else _) = _
  rw [if_pos (by rw [Bool.or_eq_true]; exact h)]
theorem modI {i j : Int} (h : j ≠ 0) : bop .mod (.int i) (.int j) = some (.d (.int (i.fmod j))) := by
  show (if j ≠ 0 then _ else _) = _
  rw [if_pos h]
theorem divI {i j : Int} (h : j ≠ 0 ∧ j.natAbs < 1073741824) : bop .fdiv (.int i) (.int j) = some (.d (.int (i.fdiv j))) := by
  show (if j ≠ 0 ∧ j.natAbs < 1073741824 then _ else _) = _
  rw [if_pos h]
theorem sm {i : Int} (h1 : -18446744073709551616 < i) (h2 : i < 18446744073709551616) : small64 i = true := by
  simp [small64, h1, h2]
theorem rdR_set {m : Mem} {k : Nat} {c : Cell} (hk : k < m.length) : rdR (m.set k c) (.mr k) = .ok (.list c.xs) (m.set k c) := rdR_mr _ (List.getElem?_set_self hk)
theorem idxL0 (a : PyData) (r : List PyData) : idx (.list (a :: r)) (.int 0) = some a := by simp [idx, L2.atI, L2.ixN]
theorem idxL1 (a b : PyData) (r : List PyData) : idx (.list (a :: b :: r)) (.int 1) = some b := by
  have : (1 : Int) < r.length + 1 + 1 := by omega
  simp [idx, L2.atI, L2.ixN, this]
theorem idxL2 (a b c : PyData) (r : List PyData) : idx (.list (a :: b :: c :: r)) (.int 2) = some c := by
  have : (2 : Int) < r.length + 1 + 1 + 1 := by omega
  simp [idx, L2.atI, L2.ixN, this]
theorem fm {i j : Int} (h : 0 < j) : 0 ≤ i.fmod j ∧ i.fmod j < j := ⟨Int.fmod_nonneg_of_pos _ h, Int.fmod_lt_of_pos _ h⟩
theorem take_set (m : Mem) (k : Nat) (c : Cell) : (m.set k c).take m.length = m.set k c := List.take_of_length_le (by simp)
theorem sp_take (wf n k N : Nat) (m : Mem) (top : Int) (hB : Bx k N m) (hN : N < 1000000000000000) (h1 : 0 < top) (h2 : top < 1073741824) :
    ∃ (r : Int) (m' : Mem), run T wf (n + 1) 8 [.mr k, .d (.int top)] m = .ok (.d (.int r)) m' ∧ 0 ≤ r ∧ r < top ∧ Bx k (N + 1) m' ∧ Up k m m' := by
  obtain ⟨a, b, c, hm, ha, hb, hb2, hc, hc2⟩ := hB
  have hk : k < m.length := (List.getElem?_eq_some_iff.mp hm).1
  have hne : top ≠ 0 := by omega
  have hna : top ≠ 0 ∧ top.natAbs < 1073741824 := ⟨hne, by omega⟩
  rw [run_succ d__law_take.fnT rfl rfl (by decide)]
  have e0 : rdR m (.mr k) = .ok (.list [.int a, .int b, .int c]) m := rdR_mr m hm
  by_cases h0 : 0 < a
  · refine ⟨a.fmod top, m.set k (box (a.fdiv top) b c), ?_, (fm h1).1, (fm h1).2, bx_set hk ?_ hb hb2 hc (by omega), Up.set _ _ _⟩
    · simp [d__law_take, Df.fnT, b__law_take, e0, idxL0, h0, modI hne, divI hna]
      rw [upCell_mr (j := k) (h := by simp) (hm := hm) (ys := [.int (a.fdiv top), .int b, .int c]) (hf := by simp [putD, L2.ixN])]
      simp [box, take_set]
    · exact Int.fdiv_nonneg ha (by omega)
  · have ea : a = 0 := by omega
    subst ea
    obtain ⟨once, ho⟩ : ∃ z : Int, z = ((b + 48271 * (c + 1)) * (39373 + (c + 1))).fmod 2147483647 := ⟨_, rfl⟩
    obtain ⟨twice, ht⟩ : ∃ z : Int, z = ((once + (c + 1) + b.fdiv 1000003) * (once.fmod 40009 + 7)).fmod 2147483629 := ⟨_, rfl⟩
    refine ⟨(((twice * 48271 + once).fmod 2147483587).fdiv 64).fmod top, m.set k (box 0 b (c + 1)), ?_, (fm h1).1, (fm h1).2, bx_set hk (by omega) hb hb2 (by omega) (by omega), Up.set _ _ _⟩
    simp [d__law_take, Df.fnT, b__law_take, e0, idxL0, idxL2]
    rw [upCell_mr (j := k) (h := by simp) (hm := hm) (ys := [.int 0, .int b, .int (c + 1)]) (hf := by simp [putD, L2.ixN])]
    have e1 : rdR (m.set k ⟨false, [.int 0, .int b, .int (c + 1)]⟩) (.mr k) = .ok (.list [.int 0, .int b, .int (c + 1)]) (m.set k ⟨false, [.int 0, .int b, .int (c + 1)]⟩) := rdR_set hk
    simp [e1, idxL1, idxL2]
    rw [mulI (.inl (by decide))]
    simp [e1, idxL1, idxL2]
    rw [mulI (.inr (sm (by omega) (by omega)))]
    simp
    rw [modI (by decide), ← ho]
    simp
    rw [modI (by decide)]
    simp [e1, idxL1, idxL2]
    rw [divI ⟨by decide, by decide⟩]
    simp
    rw [mulI (.inr (by
      have := fm (i := once) (j := 40009) (by decide)
      exact sm (by omega) (by omega)))]
    simp
    rw [modI (by decide), ← ht]
    simp
    rw [mulI (.inr (by decide))]
    simp
    rw [modI (by decide)]
    simp
    rw [divI ⟨by decide, by decide⟩]
    simp [modI hne, box, take_set]
theorem atI_in {α : Type} {xs : List α} {r : Int} (h0 : 0 ≤ r) (h1 : r < xs.length) : ∃ y, L2.atI xs r = some y ∧ xs[r.toNat]? = some y ∧ y ∈ xs := by
  have hlt : r.toNat < xs.length := by omega
  refine ⟨xs[r.toNat], ?_, List.getElem?_eq_getElem hlt, List.getElem_mem hlt⟩
  unfold L2.atI L2.ixN
  simp [h0, h1, show ¬ r < 0 by omega]
theorem sp_of (wf n k N : Nat) (m : Mem) (v : Val) (d : PyData) (xs : List PyData) (hv : v.nf = v) (hvk : v ≠ .mr k) (hr : rd m v = some d) (hd : d = .list xs ∨ d = .tuple xs) (hB : Bx k N m) (hN : N < 1000000000000000) (h1 : 0 < xs.length) (h2 : xs.length < 1000000) :
    ∃ (y : PyData) (m' : Mem), run T wf (n + 2) 10 [.mr k, v] m = .ok (.d y) m' ∧ y ∈ xs ∧ Bx k (N + 1) m' ∧ Up k m m' := by
  rw [run_succ d__law_of.fnT rfl rfl (by decide)]
  obtain ⟨r, m', h3, h4, h5, h6, h7⟩ := sp_take wf n k N m xs.length hB hN (by omega) (by omega)
  have hr' : rd m' v = some d := by
    cases v with
    | mr j =>
      have hj : j ≠ k := fun e => hvk (by rw [e])
      show (m'[j]?).map _ = _
      rw [h7.2 j hj]
      exact hr
    | d x => exact hr
    | fr x => cases hv
  obtain ⟨y, e1, _, e2⟩ := atI_in (xs := xs) h4 h5
  have e3 : rdR m' v = .ok d m' := by unfold rdR; rw [hr']; rfl
  have e4 : lookAll m [v] = some [d] := by
    show (match rd m v, lookAll m [] with | some x, some xs => some (x :: xs) | _, _ => none) = _
    rw [hr]; rfl
  refine ⟨y, m', ?_, e2, h6, h7⟩
  have e5 : lenD [d] = some (.d (.int xs.length)) := by rcases hd with rfl | rfl <;> rfl
  have e6 : idx d (.int r) = some y := by rcases hd with rfl | rfl <;> exact e1
  simp [d__law_of, Df.fnT, b__law_of, hv, e4, e5, h3, e3, e6, ← h7.1]
end Ra.K0


set_option Elab.async false
set_option linter.all false
set_option maxRecDepth 100000
set_option maxHeartbeats 800000
namespace Ra.K0
open PySem M _root_.K0
/-- old cells but for the box are as they were; new ones may have come -/
def Gr (k : Nat) (m m' : Mem) : Prop := m.length ≤ m'.length ∧ ∀ j, j < m.length → j ≠ k → m'[j]? = m[j]?
theorem Gr.refl (k : Nat) (m : Mem) : Gr k m m := ⟨Nat.le_refl _, fun _ _ _ => rfl⟩
theorem Gr.trans {k : Nat} {m m' m'' : Mem} (a : Gr k m m') (b : Gr k m' m'') : Gr k m m'' := ⟨Nat.le_trans a.1 b.1, fun j h1 h2 => (b.2 j (Nat.lt_of_lt_of_le h1 a.1) h2).trans (a.2 j h1 h2)⟩
theorem Up.gr {k : Nat} {m m' : Mem} (a : Up k m m') : Gr k m m' := ⟨Nat.le_of_eq a.1.symm, fun j _ h => a.2 j h⟩
theorem Gr.app (k : Nat) (m : Mem) (cs : List Cell) : Gr k m (m ++ cs) := ⟨by simp, fun j h _ => List.getElem?_append_left h⟩
theorem Gr.put {k : Nat} {m m' : Mem} (a : Gr k m m') {j : Nat} (c : Cell) (h : m.length ≤ j) : Gr k m (m'.set j c) := ⟨by simpa using a.1, fun i h1 h2 => by
  rw [List.getElem?_set_ne (by omega)]
  exact a.2 i h1 h2⟩
theorem Gr.up {k : Nat} {m m' : Mem} (a : Gr k m m') : Up k m (m'.take m.length) := by
  refine ⟨by rw [List.length_take]; have := a.1; omega, fun j h => ?_⟩
  rcases Nat.lt_or_ge j m.length with l | l
  · rw [List.getElem?_take_of_lt l]
    exact a.2 j l h
  · rw [List.getElem?_eq_none (by rw [List.length_take]; omega), List.getElem?_eq_none l]
theorem Bx.cut {k N L : Nat} {m : Mem} (h : Bx k N m) (hk : k < L) : Bx k N (m.take L) := by
  obtain ⟨a, b, c, h1, r⟩ := h
  exact ⟨a, b, c, by rw [List.getElem?_take_of_lt hk]; exact h1, r⟩
theorem Bx.app {k N : Nat} {m : Mem} (h : Bx k N m) (cs : List Cell) : Bx k N (m ++ cs) := by
  have hk := h.lt
  obtain ⟨a, b, c, h1, r⟩ := h
  exact ⟨a, b, c, by rw [List.getElem?_append_left hk]; exact h1, r⟩
theorem Bx.put {k N j : Nat} {m : Mem} (h : Bx k N m) (c : Cell) (hj : j ≠ k) : Bx k N (m.set j c) := by
  obtain ⟨a, b, d, h1, r⟩ := h
  exact ⟨a, b, d, by rw [List.getElem?_set_ne hj]; exact h1, r⟩
theorem at_new (m : Mem) (c : Cell) (r : List Cell) : (m ++ c :: r)[m.length]? = some c := by simp
theorem at_new1 (m : Mem) (b c : Cell) (r : List Cell) : (m ++ b :: c :: r)[m.length + 1]? = some c := by
  rw [List.getElem?_append_right (by omega)]
  simp
theorem erase_perm {α : Type} {xs : List α} {i : Nat} {y : α} (h : xs[i]? = some y) : (y :: xs.eraseIdx i).Perm xs := L2.erase_perm xs i y h
theorem sp_pick (wf n k N s : Nat) (m : Mem) (pool : List PyData) (hB : Bx k N m) (hN : N + s < 1000000000000000) (hs : s ≤ pool.length) (hp : pool.length < 1000) :
    ∃ (ys : List PyData) (m' : Mem), run T wf (n + 2) 11 [.mr k, .d (.list pool), .d (.int s)] m = .ok (.fr ys) m' ∧ ys.length = s ∧ (∃ rest, (ys ++ rest).Perm pool) ∧ Bx k (N + s) m' ∧ Up k m m' := by
  have hk := hB.lt
  rw [run_succ d__law_pick.fnT rfl rfl (by decide)]
  obtain ⟨env', m', hf, e3, rest, lot, rfl, hl, hr, hlo, hpm, hlen, hB', hG⟩ := forLoop_inv (t := .nm 3) (body := exB (run T wf (n + 1)) wf [(.app 5 (.pop 4 (.call 8 [(.var 0), (.bi .len [(.var 4)])])))]) (gs := [])
    (fun i env m' => ∃ e3 rest lot, env = [some (.mr k), some (.d (.list pool)), some (.d (.int s)), e3, some (.mr m.length), some (.mr (m.length + 1))] ∧ m'.length = m.length + 2 ∧ m'[m.length]? = some ⟨false, rest⟩ ∧ m'[m.length + 1]? = some ⟨false, lot⟩ ∧
      (lot ++ rest).Perm pool ∧ lot.length = i ∧ Bx k (N + i) m' ∧ Gr k m m') (xs := rangeD 0 s) 0 (env := [some (.mr k), some (.d (.list pool)), some (.d (.int s)), none, some (.mr m.length), some (.mr (m.length + 1))]) (m := m ++ [⟨false, pool⟩, ⟨false, []⟩])
    (by
      rintro i x hx env m1 ⟨e3, rest, lot, rfl, hl, hr, hlo, hpm, hlen, hB1, hG⟩
      obtain ⟨rfl, hi⟩ := rangeD_at s 0 i x hx
      rw [Nat.zero_add] at hlen hB1 ⊢
      have hpl := hpm.length_eq
      rw [List.length_append] at hpl
      obtain ⟨r, m2, a1, a2, a3, a4, a5⟩ := sp_take wf n k (N + i) m1 rest.length hB1 (by omega) (by omega) (by omega)
      have hr2 : m2[m.length]? = some ⟨false, rest⟩ := (a5.2 _ (by omega)).trans hr
      have hlo2 : m2[m.length + 1]? = some ⟨false, lot⟩ := (a5.2 _ (by omega)).trans hlo
      obtain ⟨y, _, hy, _⟩ := atI_in (xs := rest) a2 a3
      have hlk : lookAll m1 [.mr m.length] = some [.list rest] := lookAll_mr _ hr _
      have hlen2 : m2.length = m.length + 2 := a5.1.trans hl
      refine ⟨[some (.mr k), some (.d (.list pool)), some (.d (.int s)), some (.d (.int i)), some (.mr m.length), some (.mr (m.length + 1))], [some (.mr k), some (.d (.list pool)), some (.d (.int s)), some (.d (.int i)), some (.mr m.length), some (.mr (m.length + 1))], (m2.set m.length ⟨false, rest.eraseIdx r.toNat⟩).set (m.length + 1) ⟨false, lot ++ [y]⟩, by simp, ?_, rfl, ⟨_, rest.eraseIdx r.toNat, lot ++ [y], rfl, ?_, ?_, ?_, ?_, ?_, ?_, ?_⟩⟩
      · simp
        rw [cPop_mr (k := m.length) (m1 := m2) (j := r) (xs := rest) (y := y) (by simp) (by simp [hlk, a1]) hr2 a2 (by omega) hy]
        simp
        rw [upCell_mr (j := m.length + 1) (xs := lot) (ys := lot ++ [y]) (h := by simp) (hm := by rw [List.getElem?_set_ne (by omega)]; exact hlo2) (hf := by
          have : lot.length < lim := by simp [lim]; omega
          simp [this])]
        simp
      · simp [hlen2]
      · rw [List.getElem?_set_ne (by omega), List.getElem?_set_self (by omega)]
      · rw [List.getElem?_set_self (by simp; omega)]
      · refine List.Perm.trans ?_ hpm
        rw [List.append_assoc]
        exact List.Perm.append_left _ (erase_perm hy)
      · simp [hlen]
      · have := (a4.put ⟨false, rest.eraseIdx r.toNat⟩ (show m.length ≠ k by omega)).put ⟨false, lot ++ [y]⟩ (show m.length + 1 ≠ k by omega)
        exact this
      · exact ((hG.trans a5.gr).put _ (Nat.le_refl _)).put _ (by omega))
    ⟨none, pool, [], rfl, by simp, at_new _ _ _, at_new1 _ _ _ _, by simp, rfl, hB.app _, Gr.app _ _ _⟩
  rw [Nat.zero_add, rangeD_len] at hlen hB'
  refine ⟨lot, m'.take m.length, ?_, hlen, ⟨rest, hpm⟩, hB'.cut hk, hG.up⟩
  have hlk : lookAll (m ++ [⟨false, pool⟩, ⟨false, []⟩]) [.mr m.length] = some [.list pool] := lookAll_mr _ (at_new _ _ _) _
  have hmin : (if (pool.length : Int) < s then (pool.length : Int) else s) = s := by rw [if_neg (by omega)]
  simp [d__law_pick, Df.fnT, b__law_pick]
  rw [hlk]
  simp [show ¬ pool.length < s by omega]
  rw [M.walk_range (by omega)]
  simp [hf]
  exact leave_new hlo (by omega)
end Ra.K0


set_option Elab.async false
set_option linter.all false
set_option maxRecDepth 100000
set_option maxHeartbeats 1600000
namespace Ra.K0
open PySem M _root_.K0
structure Stp where
  name : Str
  tool : Str
  reads : List Str
  page : Str
  on : List (Str × Int)
def encOn (on : List (Str × Int)) : PyData := .tuple (on.map fun p => .tuple [.str p.1, .int p.2])
def enc (s : Stp) : PyData := .tuple [.str s.name, .str s.tool, .tuple (s.reads.map PyData.str), .str s.page, encOn s.on]
def tg (s : Str) : Prop := tagB (.str s) = true
structure OkS (s : Stp) : Prop where
  name : tg s.name
  tool : tg s.tool
  reads : ∀ r ∈ s.reads, tg r
  page : tg s.page
  few : s.reads.length ≤ 3
  one : s.on.length ≤ 1
  on : ∀ p ∈ s.on, tg p.1 ∧ (p.2 = 0 ∨ p.2 = 1)
theorem condB_on {on : List (Str × Int)} (h1 : on.length ≤ 1) (h2 : ∀ p ∈ on, tg p.1 ∧ (p.2 = 0 ∨ p.2 = 1)) : condB (encOn on) = true := by
  rcases on with _ | ⟨p, _ | ⟨q, r⟩⟩
  · rfl
  · obtain ⟨h3, h4⟩ := h2 p List.mem_cons_self
    unfold tg at h3
    have hb : bitB (.int p.2) = true := by rcases h4 with e | e <;> rw [e] <;> rfl
    simp [encOn, condB, allB, pairB, fst, snd, h3, hb, firsts, risB]
  · simp at h1
theorem stepB_enc {s : Stp} (h : OkS s) : stepB (enc s) = true := by
  have a := h.name
  have b := h.tool
  have c := h.page
  unfold tg at a b c
  have d := condB_on h.one h.on
  have e : allB (s.reads.map PyData.str) tagB = true := allB_of fun x hx => by
    obtain ⟨r, hr, rfl⟩ := List.mem_map.mp hx
    exact h.reads r hr
  simp [enc, stepB, a, b, c, d, e]
/-- tuple([of(tin, ahead) for lap in range(take(tin, q))]) -/
abbrev eReads (q : Int) : E := .bi .tuple [.lc [16] (.nm 16) .range [.call 8 [.var 0, .cst (.int q)]] [] (.call 10 [.var 0, .var 4])]
theorem sp_reads (wf n k N L : Nat) (m : Mem) (q : Nat) (ahead : List Str) (v1 v2 v3 v5 v6 v7 v8 v9 v10 v11 v12 v13 v14 v15 v16 : Option Val) (hq : 1 ≤ q ∧ q ≤ 4) (hL : L ≠ k) (hc : m[L]? = some ⟨false, ahead.map PyData.str⟩) (ha : 0 < ahead.length ∧ ahead.length < 1000) (hB : Bx k N m) (hN : N < 1000000000) :
    ∃ (rs : List Str) (m' : Mem), (sem (run T wf (n + 2)) (eReads q)).v [some (.mr k), v1, v2, v3, some (.mr L), v5, v6, v7, v8, v9, v10, v11, v12, v13, v14, v15, v16] m = .ok (.d (.tuple (rs.map PyData.str))) m' ∧
      rs.length ≤ q - 1 ∧ (∀ r ∈ rs, r ∈ ahead) ∧ Bx k (N + 4) m' ∧ Up k m m' := by
  obtain ⟨r, m1, a1, a2, a3, a4, a5⟩ := sp_take wf (n + 1) k N m q hB (by omega) (by omega) (by omega)
  obtain ⟨c, rfl⟩ : ∃ c : Nat, r = c := ⟨r.toNat, by omega⟩
  obtain ⟨ys, m', b1, b2, b3, b4, b5⟩ := lcLoop_inv (t := .nm 16) (elt := sem (run T wf (n + 2)) (.call 10 [.var 0, .var 4])) (gs := []) (env := [some (.mr k), v1, v2, v3, some (.mr L), v5, v6, v7, v8, v9, v10, v11, v12, v13, v14, v15, none])
    (fun i m' => Bx k (N + 1 + i) m' ∧ Up k m m') (fun y => ∃ s ∈ ahead, y = .str s) (xs := rangeD 0 c) 0 (m := m1) (by
      rintro i x hx m2 ⟨h1, h2⟩
      obtain ⟨rfl, hi⟩ := rangeD_at c 0 i x hx
      rw [Nat.zero_add] at h1 ⊢
      have hcl : m2[L]? = some ⟨false, ahead.map PyData.str⟩ := (h2.2 L hL).trans hc
      obtain ⟨y, m3, c1, c2, c3, c4⟩ := sp_of wf n k (N + 1 + i) m2 (.mr L) (.list (ahead.map PyData.str)) (ahead.map PyData.str) rfl (fun e => by cases e; exact hL rfl) (by show (m2[L]?).map _ = _; rw [hcl]; rfl) (.inl rfl) h1 (by omega) (by simpa using ha.1) (by rw [List.length_map]; omega)
      refine ⟨[some (.mr k), v1, v2, v3, some (.mr L), v5, v6, v7, v8, v9, v10, v11, v12, v13, v14, v15, some (.d (.int i))], .d y, m3, y, m3, by simp, by simp [c1], rfl, rfl, ⟨c3, h2.trans c4⟩, ?_⟩
      obtain ⟨s, hs, rfl⟩ := List.mem_map.mp c2
      exact ⟨s, hs, rfl⟩) ⟨a4, a5⟩
  rw [Nat.zero_add, rangeD_len] at b4
  have hys : ys = (ys.map strOf).map PyData.str := by
    rw [List.map_map]
    conv => lhs; rw [← List.map_id ys]
    refine List.map_congr_left fun y hy => ?_
    obtain ⟨s, _, rfl⟩ := b3 y hy
    rfl
  refine ⟨ys.map strOf, m', ?_, by rw [List.length_map, b2, rangeD_len]; omega, fun r hr => ?_, b4.mono (by omega), b5⟩
  · rw [← hys]
    simp [a1]
    rw [M.walk_range (by omega)]
    have b1' : lcLoop (.nm 16) (sems (run T wf (n + 2)) []) (sem (run T wf (n + 2)) (.call 10 [.var 0, .var 4])) [] [some (.mr k), v1, v2, v3, some (.mr L), v5, v6, v7, v8, v9, v10, v11, v12, v13, v14, v15, none] (rangeD 0 c) m1 = .ok ys m' := b1
    simp [b1']
  · obtain ⟨y, hy, rfl⟩ := List.mem_map.mp hr
    obtain ⟨s, hs, rfl⟩ := b3 y hy
    exact hs
end Ra.K0


set_option Elab.async false
set_option linter.all false
set_option maxRecDepth 100000
set_option maxHeartbeats 3200000
namespace Ra.K0
open PySem M _root_.K0
def LET8 : List Str := ["a", "b", "c", "d", "e", "f", "g", "h"]
theorem signs8 : signs "abcdefgh" = LET8.map PyData.str := by rfl
theorem let8_tg : ∀ l ∈ LET8, tagB (.str ("p" ++ l)) = true ∧ tagB (.str ("t" ++ l)) = true ∧ tagB (.str ("u" ++ l)) = true ∧ ("p" ++ l : Str).length ≤ 8 ∧ l.length = 1 := by decide +kernel
theorem let8_ne : ∀ l ∈ LET8, ∀ l' ∈ LET8, ("t" ++ l : Str) ≠ "u" ++ l' ∧ (("t" ++ l : Str) = "t" ++ l' → l = l') ∧ (("u" ++ l : Str) = "u" ++ l' → l = l') := by decide +kernel
theorem addS (x y : Str) (h : x.length + y.length ≤ lim) : bop .add (.str x) (.str y) = some (.d (.str (x ++ y))) := by
  show (if x.length + y.length ≤ lim then _ else _) = _
  rw [if_pos h]
abbrev flags : PyData := .tuple [.str "fa", .str "fb"]
theorem flags_ne : cmp .ne flags (.tuple []) = some true := by decide +kernel
abbrev tools3 : List PyData := [.str "ma", .str "mb", .str "mc"]
abbrev tools2 : List PyData := [.str "ma", .str "mb"]
theorem tg_tools : ∀ y ∈ tools3, ∃ s, y = .str s ∧ tg s := by
  intro y hy
  simp only [List.mem_cons, List.not_mem_nil, or_false] at hy
  rcases hy with rfl | rfl | rfl <;> exact ⟨_, rfl, by unfold tg; decide +kernel⟩
theorem tg_tools2 : ∀ y ∈ tools2, ∃ s, y = .str s ∧ tg s := by
  intro y hy
  simp only [List.mem_cons, List.not_mem_nil, or_false] at hy
  rcases hy with rfl | rfl <;> exact ⟨_, rfl, by unfold tg; decide +kernel⟩
theorem tg_flags : ∀ y ∈ [PyData.str "fa", .str "fb"], ∃ s, y = .str s ∧ tg s := by
  intro y hy
  simp only [List.mem_cons, List.not_mem_nil, or_false] at hy
  rcases hy with rfl | rfl <;> exact ⟨_, rfl, by unfold tg; decide +kernel⟩
/-- the state of the loop of form -/
structure FormJ (k N L : Nat) (m0 : Mem) (letters : List Str) (i : Nat) (m : Mem) (ahead : List Str) (found : List Stp) : Prop where
  len : m.length = L + 2
  a : m[L]? = some ⟨false, ahead.map PyData.str⟩
  f : m[L + 1]? = some ⟨false, found.map enc⟩
  tga : ∀ x ∈ ahead, tg x
  al : 0 < ahead.length ∧ ahead.length ≤ 3 + i
  ok : ∀ s ∈ found, OkS s
  fl : found.length ≤ 6
  fz : 0 < i → found ≠ []
  nd : (found.map Stp.name).Nodup
  nm : ∀ s ∈ found, ∃ l ∈ letters.take i, s.name = "t" ++ l ∨ s.name = "u" ++ l
  B : Bx k (N + 20 * i) m
  G : Gr k m0 m
theorem appCell {call : Call} {wf i j : Nat} {e : E} {env : Env} {m m1 : Mem} {x : PyData} {xs : List PyData} (h1 : getV env i = some (.mr j)) (h2 : (sem call e).v env m = .ok (.d x) m1) (h3 : m1[j]? = some ⟨false, xs⟩) (h4 : xs.length < 1000000) : exS call wf (.app i e) env m = .ok (.next env) (m1.set j ⟨false, xs ++ [x]⟩) := by
  rw [M.x_app, onCell_mr env h1, h2]
  simp only [Res.bind_ok, frz_d]
  rw [upCell_mr (j := j) (xs := xs) (ys := xs ++ [x]) (h := h1) (hm := h3) (hf := if_pos (by simp [lim]; omega))]
abbrev env17 (k L : Nat) (pages letters : List Str) (e3 e8 e9 e10 e11 e12 e13 e14 e15 e16 : Option Val) : Env :=
  [some (.mr k), some (.d (.int 6)), some (.d flags), e3, some (.mr L), some (.mr (L + 1)), some (.d (.list (pages.map PyData.str))), some (.d (.list (letters.map PyData.str))), e8, e9, e10, e11, e12, e13, e14, e15, e16]
def sA1 : S := .par [(9, false), (10, false)] [(.op .add (.cst (.str "p")) (.idx (.var 6) (.var 3))), (.idx (.var 7) (.var 3))]
def sA2 : S := .set 8 false (eReads 4)
def sA3 : S := .par [(11, false), (12, false)] [(.call 10 [(.var 0), (.lst [(.cst (.str "ma")), (.cst (.str "mb")), (.cst (.str "mc"))])]), (.ite (.cmp .ne (.var 2) (.tup [])) (.call 8 [(.var 0), (.cst (.int 4))]) (.cst (.int 3)))]
def cA : E := .band [(.cmp .eq (.var 12) (.cst (.int 0))), (.cmp .lt (.bi .len [(.var 5)]) (.op .sub (.var 1) (.cst (.int 1))))]
def sB1 : S := .set 13 false (.call 10 [(.var 0), (.var 2)])
def sB2 : S := .set 14 false (eReads 3)
def sB3 : S := .app 5 (.tup [(.op .add (.cst (.str "t")) (.var 10)), (.var 11), (.var 8), (.var 9), (.tup [(.tup [(.var 13), (.cst (.int 0))])])])
def sB4 : S := .app 5 (.tup [(.op .add (.cst (.str "u")) (.var 10)), (.call 10 [(.var 0), (.lst [(.cst (.str "ma")), (.cst (.str "mb"))])]), (.var 14), (.var 9), (.tup [(.tup [(.var 13), (.cst (.int 1))])])])
def sB5 : S := .app 4 (.var 9)
def sC1 : S := .set 15 false (.ite (.cmp .eq (.var 12) (.cst (.int 1))) (.tup [(.tup [(.call 10 [(.var 0), (.var 2)]), (.call 8 [(.var 0), (.cst (.int 2))])])]) (.tup []))
def sC2 : S := .app 5 (.tup [(.op .add (.cst (.str "t")) (.var 10)), (.var 11), (.var 8), (.var 9), (.var 15)])
def bodyF : List S := [sA1, sA2, sA3, .iff cA [sB1, sB2, sB3, sB4, sB5] [.iff (.cmp .lt (.bi .len [(.var 5)]) (.var 1)) [sC1, sC2, sB5] []]]
theorem form_body : b__law_form = [(.par [(4, true), (5, true)] [(.lst [(.cst (.str "sa")), (.cst (.str "sb")), (.cst (.str "sc"))]), (.lst [])]), (.par [(6, false), (7, false)] [(.call 11 [(.var 0), (.bi .list [(.cst (.str "abcdefgh"))]), (.var 1)]), (.call 11 [(.var 0), (.bi .list [(.cst (.str "abcdefgh"))]), (.var 1)])]),
  (.for (.nm 3) .range [(.op .add (.cst (.int 1)) (.call 8 [(.var 0), (.var 1)]))] bodyF), (.ret (.bi .tuple [(.bi .sorted [(.var 5)])]))] := rfl
theorem sp_body (wf n k N L : Nat) (m0 m : Mem) (pages letters : List Str) (hm0 : m0.length = L) (hk : k < L) (hp : pages.length = 6) (hl : letters.length = 6) (hpg : ∀ x ∈ pages, x ∈ LET8) (hlt : ∀ x ∈ letters, x ∈ LET8) (hln : letters.Nodup) (hN : N < 100000000)
    (i : Nat) (hi : i < 6) (ahead : List Str) (found : List Stp) (J : FormJ k N L m0 letters i m ahead found) (e8' e9' e10' e11' e12' e13' e14' e15' e16' : Option Val) :
    ∃ (e8 e9 e10 e11 e12 e13 e14 e15 e16 : Option Val) (m' : Mem) (ahead' : List Str) (found' : List Stp),
      exB (run T wf (n + 2)) wf bodyF (env17 k L pages letters (some (.d (.int i))) e8' e9' e10' e11' e12' e13' e14' e15' e16') m = .ok (.next (env17 k L pages letters (some (.d (.int i))) e8 e9 e10 e11 e12 e13 e14 e15 e16)) m' ∧ FormJ k N L m0 letters (i + 1) m' ahead' found' := by
  have hkL : L ≠ k := by omega
  have hkL1 : L + 1 ≠ k := by omega
  obtain ⟨pg, hpg1⟩ : ∃ x, pages[i]? = some x := ⟨pages[i], List.getElem?_eq_getElem (by omega)⟩
  obtain ⟨lt, hlt1⟩ : ∃ x, letters[i]? = some x := ⟨letters[i], List.getElem?_eq_getElem (by omega)⟩
  have hpg8 := hpg pg (List.mem_of_getElem? hpg1)
  have hlt8 := hlt lt (List.mem_of_getElem? hlt1)
  obtain ⟨pgt, _, _, pgl, pg1⟩ := let8_tg pg hpg8
  obtain ⟨_, ltt, ltu, _, lt1⟩ := let8_tg lt hlt8
  have ixp : idx (.list (pages.map PyData.str)) (.int i) = some (.str pg) := by
    show L2.atI _ _ = _
    unfold L2.atI L2.ixN
    simp [hpg1, show (i : Int) < pages.length by omega]
  have ixl : idx (.list (letters.map PyData.str)) (.int i) = some (.str lt) := by
    show L2.atI _ _ = _
    unfold L2.atI L2.ixN
    simp [hlt1, show (i : Int) < letters.length by omega]
  have s1 : ∀ m, exS (run T wf (n + 2)) wf sA1 (env17 k L pages letters (some (.d (.int i))) e8' e9' e10' e11' e12' e13' e14' e15' e16') m = .ok (.next (env17 k L pages letters (some (.d (.int i))) e8' (some (.d (.str ("p" ++ pg)))) (some (.d (.str lt))) e11' e12' e13' e14' e15' e16')) m := by
    intro m
    simp [sA1, env17, ixp, ixl, addS "p" pg (by rw [pg1]; decide +kernel)]
  obtain ⟨rs, m1, r1, r2, r3, r4, r5⟩ := sp_reads wf n k (N + 20 * i) L m 4 ahead (some (.d (.int 6))) (some (.d flags)) (some (.d (.int i))) (some (.mr (L + 1))) (some (.d (.list (pages.map PyData.str)))) (some (.d (.list (letters.map PyData.str)))) e8' (some (.d (.str ("p" ++ pg)))) (some (.d (.str lt))) e11' e12' e13' e14' e15' e16' ⟨by omega, by omega⟩ hkL J.a ⟨J.al.1, by have := J.al.2; omega⟩ J.B (by omega)
  have s2 : exS (run T wf (n + 2)) wf sA2 (env17 k L pages letters (some (.d (.int i))) e8' (some (.d (.str ("p" ++ pg)))) (some (.d (.str lt))) e11' e12' e13' e14' e15' e16') m = .ok (.next (env17 k L pages letters (some (.d (.int i))) (some (.d (.tuple (rs.map PyData.str)))) (some (.d (.str ("p" ++ pg)))) (some (.d (.str lt))) e11' e12' e13' e14' e15' e16')) m1 := by
    rw [sA2, M.x_set]
    rw [show ((4 : Nat) : Int) = 4 from rfl] at r1
    rw [r1]
    simp
  obtain ⟨y1, m2, t1, t2, t3, t4⟩ := sp_of wf n k (N + 20 * i + 4) m1 (.d (.list tools3)) (.list tools3) tools3 rfl (by simp) rfl (.inl rfl) r4 (by omega) (by simp) (by simp)
  obtain ⟨tool, rfl, htool⟩ := tg_tools y1 t2
  obtain ⟨so, m3, u1, u2, u3, u4, u5⟩ := sp_take wf (n + 1) k (N + 20 * i + 5) m2 4 t3 (by omega) (by omega) (by omega)
  have s3 : exS (run T wf (n + 2)) wf sA3 (env17 k L pages letters (some (.d (.int i))) (some (.d (.tuple (rs.map PyData.str)))) (some (.d (.str ("p" ++ pg)))) (some (.d (.str lt))) e11' e12' e13' e14' e15' e16') m1 = .ok (.next (env17 k L pages letters (some (.d (.int i))) (some (.d (.tuple (rs.map PyData.str)))) (some (.d (.str ("p" ++ pg)))) (some (.d (.str lt))) (some (.d (.str tool))) (some (.d (.int so))) e13' e14' e15' e16')) m3 := by
    simp [sA3, t1, flags_ne, u1]
  have U3 : Up k m m3 := (r5.trans t4).trans u5
  have A3 : m3[L]? = some ⟨false, ahead.map PyData.str⟩ := (U3.2 L hkL).trans J.a
  have F3 : m3[L + 1]? = some ⟨false, found.map enc⟩ := (U3.2 (L + 1) hkL1).trans J.f
  have L3 : lookAll m3 [.mr (L + 1)] = some [.list (found.map enc)] := lookAll_mr _ F3 _
  have hfl := J.fl
  have rsl : rs.length ≤ 3 := by omega
  have fresh : ∀ nm : Str, nm = "t" ++ lt ∨ nm = "u" ++ lt → nm ∉ found.map Stp.name := by
    intro nm hnm hmem
    obtain ⟨s, hs, rfl⟩ := List.mem_map.mp hmem
    obtain ⟨l, hl, e⟩ := J.nm s hs
    have hl8 : l ∈ LET8 := hlt l (List.mem_of_mem_take hl)
    have hne : lt ≠ l := by
      rintro rfl
      obtain ⟨j, hj⟩ := List.mem_iff_getElem?.mp hl
      have hjl : j < i := by
        have := (List.getElem?_eq_some_iff.mp hj).1
        rw [List.length_take] at this
        omega
      rw [List.getElem?_take_of_lt hjl] at hj
      have := (List.getElem?_inj (by omega) hln).mp (hj.trans hlt1.symm)
      omega
    obtain ⟨n1, n2, n3⟩ := let8_ne lt hlt8 l hl8
    obtain ⟨n4, _, _⟩ := let8_ne l hl8 lt hlt8
    rcases hnm with h | h <;> rcases e with q | q
    · exact hne (n2 (h.symm.trans q))
    · exact n1 (h.symm.trans q)
    · exact n4 (q.symm.trans h)
    · exact hne (n3 (h.symm.trans q))
  have hltk : lt ∈ letters.take (i + 1) := List.mem_of_getElem? (i := i) (by rw [List.getElem?_take_of_lt (by omega)]; exact hlt1)
  have htake : ∀ l, l ∈ letters.take i → l ∈ letters.take (i + 1) := fun l hl => by
    rw [L2.take_next hlt1]
    exact List.mem_append_left _ hl
  rw [bodyF, exB_cons, s1, Res.bind_ok, nextF_next, exB_cons, s2, Res.bind_ok, nextF_next, exB_cons, s3, Res.bind_ok, nextF_next, exB_cons, M.x_iff]
  by_cases hc : so = 0 ∧ found.length < 5
  · obtain ⟨rfl, hc2⟩ := hc
    have hcond : (sem (run T wf (n + 2)) cA).t (env17 k L pages letters (some (.d (.int i))) (some (.d (.tuple (rs.map PyData.str)))) (some (.d (.str ("p" ++ pg)))) (some (.d (.str lt))) (some (.d (.str tool))) (some (.d (.int 0))) e13' e14' e15' e16') m3 = .ok true m3 := by
      simp [cA, L3]
      omega
    rw [hcond]
    simp only [Res.bind_ok, if_true]
    obtain ⟨y2, m4, v1, v2, v3, v4⟩ := sp_of wf n k (N + 20 * i + 6) m3 (.d flags) flags [.str "fa", .str "fb"] rfl (by simp) rfl (.inr rfl) u4 (by omega) (by simp) (by simp)
    obtain ⟨flag, rfl, hflag⟩ := tg_flags y2 v2
    have b1 : exS (run T wf (n + 2)) wf sB1 (env17 k L pages letters (some (.d (.int i))) (some (.d (.tuple (rs.map PyData.str)))) (some (.d (.str ("p" ++ pg)))) (some (.d (.str lt))) (some (.d (.str tool))) (some (.d (.int 0))) e13' e14' e15' e16') m3 = .ok (.next (env17 k L pages letters (some (.d (.int i))) (some (.d (.tuple (rs.map PyData.str)))) (some (.d (.str ("p" ++ pg)))) (some (.d (.str lt))) (some (.d (.str tool))) (some (.d (.int 0))) (some (.d (.str flag))) e14' e15' e16')) m4 := by
      simp [sB1, v1]
    have A4 : m4[L]? = some ⟨false, ahead.map PyData.str⟩ := (v4.2 L hkL).trans A3
    obtain ⟨qs, m5, w1, w2, w3, w4, w5⟩ := sp_reads wf n k (N + 20 * i + 7) L m4 3 ahead (some (.d (.int 6))) (some (.d flags)) (some (.d (.int i))) (some (.mr (L + 1))) (some (.d (.list (pages.map PyData.str)))) (some (.d (.list (letters.map PyData.str)))) (some (.d (.tuple (rs.map PyData.str)))) (some (.d (.str ("p" ++ pg)))) (some (.d (.str lt))) (some (.d (.str tool))) (some (.d (.int 0))) (some (.d (.str flag))) e14' e15' e16' ⟨by omega, by omega⟩ hkL A4 ⟨J.al.1, by have := J.al.2; omega⟩ v3 (by omega)
    have b2 : exS (run T wf (n + 2)) wf sB2 (env17 k L pages letters (some (.d (.int i))) (some (.d (.tuple (rs.map PyData.str)))) (some (.d (.str ("p" ++ pg)))) (some (.d (.str lt))) (some (.d (.str tool))) (some (.d (.int 0))) (some (.d (.str flag))) e14' e15' e16') m4 = .ok (.next (env17 k L pages letters (some (.d (.int i))) (some (.d (.tuple (rs.map PyData.str)))) (some (.d (.str ("p" ++ pg)))) (some (.d (.str lt))) (some (.d (.str tool))) (some (.d (.int 0))) (some (.d (.str flag))) (some (.d (.tuple (qs.map PyData.str)))) e15' e16')) m5 := by
      rw [sB2, M.x_set]
      rw [show ((3 : Nat) : Int) = 3 from rfl] at w1
      rw [w1]
      simp
    have U5 : Up k m m5 := (U3.trans v4).trans w5
    have F5 : m5[L + 1]? = some ⟨false, found.map enc⟩ := (U5.2 (L + 1) hkL1).trans J.f
    have b3 := appCell (call := run T wf (n + 2)) (wf := wf) (i := 5) (j := L + 1) (e := .tup [(.op .add (.cst (.str "t")) (.var 10)), (.var 11), (.var 8), (.var 9), (.tup [(.tup [(.var 13), (.cst (.int 0))])])])
      (env := env17 k L pages letters (some (.d (.int i))) (some (.d (.tuple (rs.map PyData.str)))) (some (.d (.str ("p" ++ pg)))) (some (.d (.str lt))) (some (.d (.str tool))) (some (.d (.int 0))) (some (.d (.str flag))) (some (.d (.tuple (qs.map PyData.str)))) e15' e16') (m := m5) (m1 := m5)
      (x := enc ⟨"t" ++ lt, tool, rs, "p" ++ pg, [(flag, 0)]⟩) (xs := found.map enc) (by simp) (by simp [addS "t" lt (by rw [lt1]; decide +kernel), enc, encOn]) F5 (by simp; omega)
    obtain ⟨m6, hm6⟩ : ∃ z : Mem, z = m5.set (L + 1) ⟨false, found.map enc ++ [enc ⟨"t" ++ lt, tool, rs, "p" ++ pg, [(flag, 0)]⟩]⟩ := ⟨_, rfl⟩
    rw [← hm6] at b3
    have B6 : Bx k (N + 20 * i + 11) m6 := by rw [hm6]; exact w4.put _ hkL1
    obtain ⟨y3, m7, x1, x2, x3, x4⟩ := sp_of wf n k (N + 20 * i + 11) m6 (.d (.list tools2)) (.list tools2) tools2 rfl (by simp) rfl (.inl rfl) B6 (by omega) (by simp) (by simp)
    obtain ⟨tool2, rfl, htool2⟩ := tg_tools2 y3 x2
    have l5 : m5.length = L + 2 := U5.1.trans J.len
    have F7 : m7[L + 1]? = some ⟨false, found.map enc ++ [enc ⟨"t" ++ lt, tool, rs, "p" ++ pg, [(flag, 0)]⟩]⟩ := by
      rw [x4.2 _ hkL1, hm6, List.getElem?_set_self (by omega)]
    have b4 := appCell (call := run T wf (n + 2)) (wf := wf) (i := 5) (j := L + 1) (e := .tup [(.op .add (.cst (.str "u")) (.var 10)), (.call 10 [(.var 0), (.lst [(.cst (.str "ma")), (.cst (.str "mb"))])]), (.var 14), (.var 9), (.tup [(.tup [(.var 13), (.cst (.int 1))])])])
      (env := env17 k L pages letters (some (.d (.int i))) (some (.d (.tuple (rs.map PyData.str)))) (some (.d (.str ("p" ++ pg)))) (some (.d (.str lt))) (some (.d (.str tool))) (some (.d (.int 0))) (some (.d (.str flag))) (some (.d (.tuple (qs.map PyData.str)))) e15' e16') (m := m6) (m1 := m7)
      (x := enc ⟨"u" ++ lt, tool2, qs, "p" ++ pg, [(flag, 1)]⟩) (by simp) (by simp [addS "u" lt (by rw [lt1]; decide +kernel), enc, encOn, x1]) F7 (by simp; omega)
    obtain ⟨m8, hm8⟩ : ∃ z : Mem, z = m7.set (L + 1) ⟨false, found.map enc ++ [enc ⟨"t" ++ lt, tool, rs, "p" ++ pg, [(flag, 0)]⟩] ++ [enc ⟨"u" ++ lt, tool2, qs, "p" ++ pg, [(flag, 1)]⟩]⟩ := ⟨_, rfl⟩
    rw [← hm8] at b4
    have l7 : m7.length = L + 2 := by rw [x4.1, hm6, List.length_set, l5]
    have A8 : m8[L]? = some ⟨false, ahead.map PyData.str⟩ := by
      rw [hm8, List.getElem?_set_ne (by omega), x4.2 L hkL, hm6, List.getElem?_set_ne (by omega)]
      exact (U5.2 L hkL).trans J.a
    have b5 := appCell (call := run T wf (n + 2)) (wf := wf) (i := 4) (j := L) (e := .var 9)
      (env := env17 k L pages letters (some (.d (.int i))) (some (.d (.tuple (rs.map PyData.str)))) (some (.d (.str ("p" ++ pg)))) (some (.d (.str lt))) (some (.d (.str tool))) (some (.d (.int 0))) (some (.d (.str flag))) (some (.d (.tuple (qs.map PyData.str)))) e15' e16') (m := m8) (m1 := m8)
      (x := .str ("p" ++ pg)) (by simp) (by simp) A8 (by have := J.al.2; simp; omega)
    rw [exB_cons, b1, Res.bind_ok, nextF_next, exB_cons, b2, Res.bind_ok, nextF_next, exB_cons, sB3, b3, Res.bind_ok, nextF_next, exB_cons, sB4, b4, Res.bind_ok, nextF_next, exB_cons, sB5, b5, Res.bind_ok, nextF_next, exB_nil, Res.bind_ok, nextF_next, exB_nil]
    refine ⟨_, _, _, _, _, _, _, _, _, _, ahead ++ ["p" ++ pg], found ++ [⟨"t" ++ lt, tool, rs, "p" ++ pg, [(flag, 0)]⟩, ⟨"u" ++ lt, tool2, qs, "p" ++ pg, [(flag, 1)]⟩], rfl, ?_⟩
    have ok1 : OkS ⟨"t" ++ lt, tool, rs, "p" ++ pg, [(flag, 0)]⟩ := ⟨ltt, htool, fun r hr => J.tga r (r3 r hr), pgt, by simpa using rsl, by simp, fun p hp => by
      rw [List.mem_singleton.mp hp]; exact ⟨hflag, .inl rfl⟩⟩
    have ok2 : OkS ⟨"u" ++ lt, tool2, qs, "p" ++ pg, [(flag, 1)]⟩ := ⟨ltu, htool2, fun r hr => J.tga r (w3 r hr), pgt, by show qs.length ≤ 3; omega, by simp, fun p hp => by
      rw [List.mem_singleton.mp hp]; exact ⟨hflag, .inr rfl⟩⟩
    refine ⟨?_, ?_, ?_, ?_, ?_, ?_, ?_, ?_, ?_, ?_, ?_, ?_⟩
    · rw [List.length_set, hm8, List.length_set, l7]
    · rw [List.getElem?_set_self (by rw [hm8, List.length_set]; omega)]; simp
    · rw [List.getElem?_set_ne (by omega), hm8, List.getElem?_set_self (by omega)]; simp
    · intro x hx
      rcases List.mem_append.mp hx with hx | hx
      · exact J.tga x hx
      · rw [List.mem_singleton.mp hx]; exact pgt
    · have := J.al; simp; omega
    · intro s hs
      rcases List.mem_append.mp hs with hs | hs
      · exact J.ok s hs
      · rcases List.mem_cons.mp hs with rfl | hs
        · exact ok1
        · rw [List.mem_singleton.mp hs]; exact ok2
    · simp; omega
    · intro _; simp
    · rw [List.map_append, List.nodup_append]
      refine ⟨J.nd, ?_, ?_⟩
      · simp only [List.map_cons, List.map_nil, List.nodup_cons, List.mem_singleton, List.not_mem_nil, not_false_eq_true, List.nodup_nil, and_true]
        exact (let8_ne lt hlt8 lt hlt8).1
      · intro a ha b hb
        simp only [List.map_cons, List.map_nil, List.mem_cons, List.not_mem_nil, or_false] at hb
        rintro rfl
        exact fresh a hb ha
    · intro s hs
      rcases List.mem_append.mp hs with hs | hs
      · obtain ⟨l, hl, e⟩ := J.nm s hs
        exact ⟨l, htake l hl, e⟩
      · rcases List.mem_cons.mp hs with rfl | hs
        · exact ⟨lt, hltk, .inl rfl⟩
        · rw [List.mem_singleton.mp hs]; exact ⟨lt, hltk, .inr rfl⟩
    · have := ((x3.put (j := L + 1) ⟨false, found.map enc ++ [enc ⟨"t" ++ lt, tool, rs, "p" ++ pg, [(flag, 0)]⟩] ++ [enc ⟨"u" ++ lt, tool2, qs, "p" ++ pg, [(flag, 1)]⟩]⟩ hkL1).put (j := L) ⟨false, ahead.map PyData.str ++ [.str ("p" ++ pg)]⟩ hkL)
      rw [← hm8] at this
      exact this.mono (by omega)
    · have g5 : Gr k m0 m5 := J.G.trans U5.gr
      have g6 : Gr k m0 m6 := by rw [hm6]; exact g5.put _ (by omega)
      have g8 : Gr k m0 m8 := by rw [hm8]; exact (g6.trans x4.gr).put _ (by omega)
      exact g8.put _ (by omega)
  · have hcond : (sem (run T wf (n + 2)) cA).t (env17 k L pages letters (some (.d (.int i))) (some (.d (.tuple (rs.map PyData.str)))) (some (.d (.str ("p" ++ pg)))) (some (.d (.str lt))) (some (.d (.str tool))) (some (.d (.int so))) e13' e14' e15' e16') m3 = .ok false m3 := by
      by_cases h0 : so = 0
      · have : ¬ found.length < 5 := fun q => hc ⟨h0, q⟩
        subst h0
        simp [cA, L3]
        omega
      · simp [cA, h0]
    rw [hcond]
    simp only [Res.bind_ok, Bool.false_eq_true, if_false]
    rw [exB_cons, M.x_iff]
    by_cases hf6 : found.length < 6
    · have hcond2 : (sem (run T wf (n + 2)) (.cmp .lt (.bi .len [(.var 5)]) (.var 1))).t (env17 k L pages letters (some (.d (.int i))) (some (.d (.tuple (rs.map PyData.str)))) (some (.d (.str ("p" ++ pg)))) (some (.d (.str lt))) (some (.d (.str tool))) (some (.d (.int so))) e13' e14' e15' e16') m3 = .ok true m3 := by
        simp [L3]
        omega
      rw [hcond2]
      simp only [Res.bind_ok, if_true]
      obtain ⟨on, m4, c1, c2, c3, c4, c5⟩ : ∃ (on : List (Str × Int)) (m4 : Mem), exS (run T wf (n + 2)) wf sC1 (env17 k L pages letters (some (.d (.int i))) (some (.d (.tuple (rs.map PyData.str)))) (some (.d (.str ("p" ++ pg)))) (some (.d (.str lt))) (some (.d (.str tool))) (some (.d (.int so))) e13' e14' e15' e16') m3 =
          .ok (.next (env17 k L pages letters (some (.d (.int i))) (some (.d (.tuple (rs.map PyData.str)))) (some (.d (.str ("p" ++ pg)))) (some (.d (.str lt))) (some (.d (.str tool))) (some (.d (.int so))) e13' e14' (some (.d (encOn on))) e16')) m4 ∧ on.length ≤ 1 ∧ (∀ p ∈ on, tg p.1 ∧ (p.2 = 0 ∨ p.2 = 1)) ∧ Bx k (N + 20 * i + 8) m4 ∧ Up k m3 m4 := by
        by_cases h1 : so = 1
        · subst h1
          obtain ⟨y2, m4, v1, v2, v3, v4⟩ := sp_of wf n k (N + 20 * i + 6) m3 (.d flags) flags [.str "fa", .str "fb"] rfl (by simp) rfl (.inr rfl) u4 (by omega) (by simp) (by simp)
          obtain ⟨flag, rfl, hflag⟩ := tg_flags y2 v2
          obtain ⟨bt, m5, w1, w2, w3, w4, w5⟩ := sp_take wf (n + 1) k (N + 20 * i + 7) m4 2 v3 (by omega) (by omega) (by omega)
          refine ⟨[(flag, bt)], m5, ?_, by simp, fun p hp => ?_, w4, v4.trans w5⟩
          · simp [sC1, v1, w1, encOn]
          · rw [List.mem_singleton.mp hp]
            exact ⟨hflag, by show bt = 0 ∨ bt = 1; omega⟩
        · refine ⟨[], m3, ?_, by simp, (fun p hp => nomatch hp), u4.mono (by omega), Up.refl _ _⟩
          simp [sC1, h1, encOn]
      have U4 : Up k m m4 := U3.trans c5
      have F4 : m4[L + 1]? = some ⟨false, found.map enc⟩ := (U4.2 (L + 1) hkL1).trans J.f
      have l4 : m4.length = L + 2 := U4.1.trans J.len
      have b3 := appCell (call := run T wf (n + 2)) (wf := wf) (i := 5) (j := L + 1) (e := .tup [(.op .add (.cst (.str "t")) (.var 10)), (.var 11), (.var 8), (.var 9), (.var 15)])
        (env := env17 k L pages letters (some (.d (.int i))) (some (.d (.tuple (rs.map PyData.str)))) (some (.d (.str ("p" ++ pg)))) (some (.d (.str lt))) (some (.d (.str tool))) (some (.d (.int so))) e13' e14' (some (.d (encOn on))) e16') (m := m4) (m1 := m4)
        (x := enc ⟨"t" ++ lt, tool, rs, "p" ++ pg, on⟩) (xs := found.map enc) (by simp) (by simp [addS "t" lt (by rw [lt1]; decide +kernel), enc]) F4 (by simp; omega)
      obtain ⟨m5, hm5⟩ : ∃ z : Mem, z = m4.set (L + 1) ⟨false, found.map enc ++ [enc ⟨"t" ++ lt, tool, rs, "p" ++ pg, on⟩]⟩ := ⟨_, rfl⟩
      rw [← hm5] at b3
      have A5 : m5[L]? = some ⟨false, ahead.map PyData.str⟩ := by
        rw [hm5, List.getElem?_set_ne (by omega)]
        exact (U4.2 L hkL).trans J.a
      have b5 := appCell (call := run T wf (n + 2)) (wf := wf) (i := 4) (j := L) (e := .var 9)
        (env := env17 k L pages letters (some (.d (.int i))) (some (.d (.tuple (rs.map PyData.str)))) (some (.d (.str ("p" ++ pg)))) (some (.d (.str lt))) (some (.d (.str tool))) (some (.d (.int so))) e13' e14' (some (.d (encOn on))) e16') (m := m5) (m1 := m5)
        (x := .str ("p" ++ pg)) (by simp) (by simp) A5 (by have := J.al.2; simp; omega)
      rw [exB_cons, c1, Res.bind_ok, nextF_next, exB_cons, sC2, b3, Res.bind_ok, nextF_next, exB_cons, sB5, b5, Res.bind_ok, nextF_next, exB_nil, Res.bind_ok, nextF_next, exB_nil, Res.bind_ok, nextF_next, exB_nil]
      refine ⟨_, _, _, _, _, _, _, _, _, _, ahead ++ ["p" ++ pg], found ++ [⟨"t" ++ lt, tool, rs, "p" ++ pg, on⟩], rfl, ?_⟩
      have ok1 : OkS ⟨"t" ++ lt, tool, rs, "p" ++ pg, on⟩ := ⟨ltt, htool, fun r hr => J.tga r (r3 r hr), pgt, rsl, c2, c3⟩
      refine ⟨?_, ?_, ?_, ?_, ?_, ?_, ?_, ?_, ?_, ?_, ?_, ?_⟩
      · rw [List.length_set, hm5, List.length_set, l4]
      · rw [List.getElem?_set_self (by rw [hm5, List.length_set]; omega)]; simp
      · rw [List.getElem?_set_ne (by omega), hm5, List.getElem?_set_self (by omega)]; simp
      · intro x hx
        rcases List.mem_append.mp hx with hx | hx
        · exact J.tga x hx
        · rw [List.mem_singleton.mp hx]; exact pgt
      · have := J.al; simp; omega
      · intro s hs
        rcases List.mem_append.mp hs with hs | hs
        · exact J.ok s hs
        · rw [List.mem_singleton.mp hs]; exact ok1
      · simp; omega
      · intro _; simp
      · rw [List.map_append, List.nodup_append]
        refine ⟨J.nd, by simp, ?_⟩
        intro a ha b hb
        simp only [List.map_cons, List.map_nil, List.mem_cons, List.not_mem_nil, or_false] at hb
        rintro rfl
        exact fresh a (.inl hb) ha
      · intro s hs
        rcases List.mem_append.mp hs with hs | hs
        · obtain ⟨l, hl, e⟩ := J.nm s hs
          exact ⟨l, htake l hl, e⟩
        · rw [List.mem_singleton.mp hs]; exact ⟨lt, hltk, .inl rfl⟩
      · have := ((c4.put (j := L + 1) ⟨false, found.map enc ++ [enc ⟨"t" ++ lt, tool, rs, "p" ++ pg, on⟩]⟩ hkL1).put (j := L) ⟨false, ahead.map PyData.str ++ [.str ("p" ++ pg)]⟩ hkL)
        rw [← hm5] at this
        exact this.mono (by omega)
      · have g4 : Gr k m0 m4 := J.G.trans U4.gr
        have g5 : Gr k m0 m5 := by rw [hm5]; exact g4.put _ (by omega)
        exact g5.put _ (by omega)
    · have hcond2 : (sem (run T wf (n + 2)) (.cmp .lt (.bi .len [(.var 5)]) (.var 1))).t (env17 k L pages letters (some (.d (.int i))) (some (.d (.tuple (rs.map PyData.str)))) (some (.d (.str ("p" ++ pg)))) (some (.d (.str lt))) (some (.d (.str tool))) (some (.d (.int so))) e13' e14' e15' e16') m3 = .ok false m3 := by
        simp [L3]
        omega
      rw [hcond2]
      simp only [Res.bind_ok, Bool.false_eq_true, if_false, exB_nil, nextF_next]
      refine ⟨_, _, _, _, _, _, _, _, _, _, ahead, found, rfl, ?_⟩
      refine ⟨U3.1.trans J.len, A3, F3, J.tga, ⟨J.al.1, by have := J.al.2; omega⟩, J.ok, J.fl, fun _ => ?_, J.nd, fun s hs => ?_, u4.mono (by omega), J.G.trans U3.gr⟩
      · intro e
        rw [e] at hf6
        simp at hf6
      · obtain ⟨l, hl, e⟩ := J.nm s hs
        exact ⟨l, htake l hl, e⟩
end Ra.K0


set_option Elab.async false
set_option linter.all false
set_option maxRecDepth 100000
set_option maxHeartbeats 3200000
namespace Ra.K0
open PySem M _root_.K0
theorem perm_map {α β : Type} (f : α → β) : ∀ {l l' : List β}, l.Perm l' → ∀ xs : List α, l' = xs.map f → ∃ ys : List α, ys.Perm xs ∧ l = ys.map f := by
  intro l l' p
  induction p with
  | nil =>
    intro xs h
    exact ⟨[], by rw [List.map_eq_nil_iff.mp h.symm], rfl⟩
  | cons x p ih =>
    intro xs h
    cases xs with
    | nil => cases h
    | cons a xs =>
      rw [List.map_cons, List.cons.injEq] at h
      obtain ⟨ys, q, e⟩ := ih xs h.2
      exact ⟨a :: ys, q.cons a, by rw [List.map_cons, e, h.1]⟩
  | swap x y l =>
    intro xs h
    cases xs with
    | nil => cases h
    | cons a xs =>
      cases xs with
      | nil => cases h
      | cons b xs =>
        rw [List.map_cons, List.map_cons, List.cons.injEq, List.cons.injEq] at h
        exact ⟨b :: a :: xs, .swap a b xs, by rw [List.map_cons, List.map_cons, h.1, h.2.1, h.2.2]⟩
  | trans p q ih1 ih2 =>
    intro xs h
    obtain ⟨ys, a, e⟩ := ih2 xs h
    obtain ⟨zs, b, e2⟩ := ih1 ys e
    exact ⟨zs, b.trans a, e2⟩
theorem alike_str2 (x y : Str) : PySem.W.alike (.str x) (.str y) = true := by simp [PySem.W.alike]
theorem alikeAll_map {α : Type} (f : α → PyData) (h : ∀ a b, PySem.W.alike (f a) (f b) = true) : ∀ xs ys : List α, PySem.W.alikeAll (xs.map f) (ys.map f) = true
  | [], _ => by simp [PySem.W.alikeAll]
  | _ :: _, [] => by simp [PySem.W.alikeAll]
  | x :: xs, y :: ys => by
    simp only [List.map_cons, PySem.W.alikeAll, h x y, alikeAll_map f h xs ys]
    rfl
theorem alike_enc (a b : Stp) : PySem.W.alike (enc a) (enc b) = true := by
  have h1 := alikeAll_map PyData.str alike_str2 a.reads b.reads
  have h2 := alikeAll_map (fun p : Str × Int => PyData.tuple [.str p.1, .int p.2]) (fun a b => by simp [PySem.W.alike, PySem.W.alikeAll]) a.on b.on
  simp [enc, encOn, PySem.W.alike, PySem.W.alikeAll, h1, h2]
theorem depthAll_le {d : Nat} : ∀ {xs : List PyData}, (∀ x ∈ xs, x.depth ≤ d) → PyData.depthAll xs ≤ d
  | [], _ => by simp [PyData.depthAll]
  | x :: xs, h => by
    rw [PyData.depthAll]
    exact Nat.max_le.mpr ⟨h x List.mem_cons_self, depthAll_le fun y hy => h y (List.mem_cons_of_mem _ hy)⟩
theorem depth_enc (s : Stp) : (enc s).depth ≤ 4 := by
  have h2 : PyData.depthAll (s.on.map fun p => PyData.tuple [.str p.1, .int p.2]) ≤ 1 := depthAll_le fun x hx => by
    obtain ⟨p, _, rfl⟩ := List.mem_map.mp hx
    simp [PyData.depth, PyData.depthAll]
  simp only [enc, encOn, PyData.depth, PyData.depthAll, depth_strs]
  omega
theorem sort_encs (found : List Stp) : sortD (found.map enc) = some (isort [] (found.map enc)) := by
  have h1 : allAlike (found.map enc) = true := by
    unfold allAlike
    rw [List.all_eq_true]
    intro x hx
    rw [List.all_eq_true]
    intro y hy
    obtain ⟨a, _, rfl⟩ := List.mem_map.mp hx
    obtain ⟨b, _, rfl⟩ := List.mem_map.mp hy
    exact alike_enc a b
  have h2 : sortable (found.map enc) = true := by
    unfold sortable
    rw [Bool.or_eq_true]
    left
    rw [List.all_eq_true]
    intro x hx
    obtain ⟨a, _, rfl⟩ := List.mem_map.mp hx
    rfl
  have h3 : PyData.depthAll (found.map enc) ≤ 64 := depthAll_le fun x hx => by
    obtain ⟨a, _, rfl⟩ := List.mem_map.mp hx
    have := depth_enc a
    omega
  unfold sortD
  simp [h1, h2, h3]
theorem lt_enc {a b : Stp} (hn : a.name ≠ b.name) (h : dle (enc a) (enc b) = true) : strLt a.name b.name = true := by
  refine strLt_of ?_ hn
  have e : PyData.eqv (.str b.name) (.str a.name) = false := by
    rw [eqv_str]
    simpa using fun q : b.name = a.name => hn q.symm
  have q : PySem.W.dataLt (enc b) (enc a) = PySem.W.dataLt (.str b.name) (.str a.name) := by
    unfold enc
    rw [PySem.W.dataLt_tuple, PySem.W.dataLt_cons (alike_str2 _ _), if_neg (by rw [e]; simp)]
  rw [dle_eq] at h ⊢
  rw [← q]
  exact h
theorem firsts_enc (ss : List Stp) : firsts (ss.map enc) = ss.map Stp.name := by
  unfold firsts
  rw [List.map_map]
  rfl
theorem sort_names {ss : List Stp} (h : (ss.map enc).Pairwise fun a b => dle a b = true) (nd : (ss.map Stp.name).Nodup) : risB (ss.map Stp.name) = true := by
  rw [ris_pair, List.pairwise_map]
  rw [List.pairwise_map] at h
  have nd' := List.pairwise_map.mp nd
  exact (h.and nd').imp fun ⟨a, b⟩ => lt_enc b a
theorem sp_form (wf n k N : Nat) (m : Mem) (hB : Bx k N m) (hN : N < 10000000) :
    ∃ (ss : List Stp) (m' : Mem), run T wf (n + 3) 13 [.mr k, .d (.int 6), .d flags] m = .ok (.d (.tuple (ss.map enc))) m' ∧ (∀ s ∈ ss, OkS s) ∧ ss ≠ [] ∧ ss.length ≤ 6 ∧ planB (.tuple (ss.map enc)) = true ∧ Bx k (N + 200) m' ∧ Up k m m' := by
  have hk := hB.lt
  rw [run_succ d__law_form.fnT rfl rfl (by decide)]
  have B0 := hB.app [⟨false, [.str "sa", .str "sb", .str "sc"]⟩, ⟨false, []⟩]
  obtain ⟨m1, hm1⟩ : ∃ z : Mem, z = m ++ [⟨false, [.str "sa", .str "sb", .str "sc"]⟩, ⟨false, []⟩] := ⟨_, rfl⟩
  rw [← hm1] at B0
  obtain ⟨ps, m2, a1, a2, ⟨ar, a3⟩, a4, a5⟩ := sp_pick wf n k N 6 m1 (LET8.map PyData.str) B0 (by omega) (by decide) (by decide)
  obtain ⟨ls, m3, b1, b2, ⟨br, b3⟩, b4, b5⟩ := sp_pick wf n k (N + 6) 6 m2 (LET8.map PyData.str) a4 (by omega) (by decide) (by decide)
  obtain ⟨r, m4, c1, c2, c3, c4, c5⟩ := sp_take wf (n + 1) k (N + 12) m3 6 b4 (by omega) (by omega) (by omega)
  obtain ⟨c, rfl⟩ : ∃ c : Nat, r = c := ⟨r.toNat, by omega⟩
  obtain ⟨pages', hpp, ep⟩ := perm_map PyData.str a3 LET8 rfl
  obtain ⟨letters', hlp, el⟩ := perm_map PyData.str b3 LET8 rfl
  have ep2 : ps = (pages'.take 6).map PyData.str := by
    rw [List.map_take, ← ep, ← a2, List.take_left]
  have el2 : ls = (letters'.take 6).map PyData.str := by
    rw [List.map_take, ← el, ← b2, List.take_left]
  have hpl : (pages'.take 6).length = 6 := by rw [List.length_take, hpp.length_eq]; rfl
  have hll : (letters'.take 6).length = 6 := by rw [List.length_take, hlp.length_eq]; rfl
  have hp8 : ∀ x ∈ pages'.take 6, x ∈ LET8 := fun x hx => hpp.mem_iff.mp (List.mem_of_mem_take hx)
  have hl8 : ∀ x ∈ letters'.take 6, x ∈ LET8 := fun x hx => hlp.mem_iff.mp (List.mem_of_mem_take hx)
  have hln : (letters'.take 6).Nodup := (List.take_sublist 6 letters').nodup (hlp.nodup_iff.mpr (by decide +kernel))
  generalize pages'.take 6 = pages at ep2 hpl hp8
  generalize letters'.take 6 = letters at el2 hll hl8 hln
  subst ep2 el2
  have U4 : Up k m1 m4 := (a5.trans b5).trans c5
  have J0 : FormJ k (N + 13) m.length m letters 0 m4 ["sa", "sb", "sc"] [] := by
    refine ⟨by rw [U4.1, hm1]; simp, ?_, ?_, ?_, by simp, by simp, by simp, by simp, by simp, by simp, c4, ?_⟩
    · rw [U4.2 _ (by omega), hm1]; exact at_new _ _ _
    · rw [U4.2 _ (by omega), hm1]; exact at_new1 _ _ _ _
    · intro x hx
      simp only [List.mem_cons, List.not_mem_nil, or_false] at hx
      rcases hx with rfl | rfl | rfl <;> (unfold tg; decide +kernel)
    · exact Gr.trans (by rw [hm1]; exact Gr.app _ _ _) U4.gr
  obtain ⟨env', m5, d1, d2⟩ := forLoop_inv (t := .nm 3) (body := exB (run T wf (n + 2)) wf bodyF) (gs := [])
    (fun i env m' => ∃ e3 e8 e9 e10 e11 e12 e13 e14 e15 e16 ahead found, env = env17 k m.length pages letters e3 e8 e9 e10 e11 e12 e13 e14 e15 e16 ∧ FormJ k (N + 13) m.length m letters i m' ahead found) (xs := rangeD 0 (1 + c)) 0
    (env := env17 k m.length pages letters none none none none none none none none none none) (m := m4) (by
      rintro i x hx env m' ⟨e3, e8, e9, e10, e11, e12, e13, e14, e15, e16, ahead, found, rfl, J⟩
      obtain ⟨rfl, hi⟩ := rangeD_at (1 + c) 0 i x hx
      rw [Nat.zero_add] at J ⊢
      obtain ⟨f8, f9, f10, f11, f12, f13, f14, f15, f16, m'', ahead', found', q1, q2⟩ := sp_body wf n k (N + 13) m.length m m' pages letters rfl hk hpl hll hp8 hl8 hln (by omega) i (by omega) ahead found J e8 e9 e10 e11 e12 e13 e14 e15 e16
      exact ⟨env17 k m.length pages letters (some (.d (.int i))) e8 e9 e10 e11 e12 e13 e14 e15 e16, _, m'', by simp, q1, rfl, _, _, _, _, _, _, _, _, _, _, ahead', found', rfl, q2⟩)
    ⟨none, none, none, none, none, none, none, none, none, none, ["sa", "sb", "sc"], [], rfl, J0⟩
  obtain ⟨e3, e8, e9, e10, e11, e12, e13, e14, e15, e16, ahead, found, rfl, J⟩ := d2
  rw [Nat.zero_add, rangeD_len] at J
  obtain ⟨ss, hss, ess⟩ := perm_map enc (isort_perm (found.map enc) []) found rfl
  have hok : ∀ s ∈ ss, OkS s := fun s hs => J.ok s (hss.mem_iff.mp hs)
  have hlk : lookAll m5 [.mr (m.length + 1)] = some [.list (found.map enc)] := lookAll_mr _ J.f _
  have hsd : bi .sorted [.list (found.map enc)] = some (.fr (ss.map enc)) := by
    rw [show ∀ z, bi .sorted z = sortedD z from fun _ => rfl]
    unfold sortedD
    simp [sort_encs, ess]
  refine ⟨ss, m5.take m.length, ?_, hok, fun e => ?_, by rw [hss.length_eq]; exact J.fl, ?_, (J.B.cut hk).mono (by omega), J.G.up⟩
  · have hf : d__law_form.fnT.body = b__law_form := rfl
    rw [hf, form_body]
    rw [show ((6 : Nat) : Int) = 6 from rfl] at a1 b1
    simp [d__law_form, Df.fnT]
    rw [← hm1]
    simp [signs8, a1, b1, c1]
    rw [show (1 : Int) + (c : Int) = ((1 + c : Nat) : Int) by omega, M.walk_range (by omega)]
    simp [d1, hlk, hsd]
  · rw [e] at hss
    exact J.fz (by omega) (List.nil_perm.mp hss)
  · rw [planB, Bool.and_eq_true]
    refine ⟨allB_of fun x hx => ?_, ?_⟩
    · obtain ⟨s, hs, rfl⟩ := List.mem_map.mp hx
      exact stepB_enc (hok s hs)
    · rw [firsts_enc]
      refine sort_names ?_ ((hss.map Stp.name).nodup_iff.mpr J.nd)
      rw [← ess]
      exact isort_sorted _ _ .nil
end Ra.K0


set_option Elab.async false
set_option linter.all false
set_option maxRecDepth 100000
set_option maxHeartbeats 3200000
namespace Ra.K0
open PySem M _root_.K0
/-- all old cells are as they were -/
def Kp (m m' : Mem) : Prop := m.length ≤ m'.length ∧ ∀ j, j < m.length → m'[j]? = m[j]?
theorem Kp.refl (m : Mem) : Kp m m := ⟨Nat.le_refl _, fun _ _ => rfl⟩
theorem Kp.trans {m m' m'' : Mem} (a : Kp m m') (b : Kp m' m'') : Kp m m'' := ⟨Nat.le_trans a.1 b.1, fun j h => (b.2 j (Nat.lt_of_lt_of_le h a.1)).trans (a.2 j h)⟩
theorem Kp.app (m : Mem) (cs : List Cell) : Kp m (m ++ cs) := ⟨by simp, fun j h => List.getElem?_append_left h⟩
theorem Kp.put {m m' : Mem} (a : Kp m m') {j : Nat} (c : Cell) (h : m.length ≤ j) : Kp m (m'.set j c) := ⟨by simpa using a.1, fun i h1 => by
  rw [List.getElem?_set_ne (by omega)]
  exact a.2 i h1⟩
theorem Kp.cut {m m' : Mem} (a : Kp m m') : m'.take m.length = m := by
  apply List.ext_getElem?
  intro j
  rcases Nat.lt_or_ge j m.length with l | l
  · rw [List.getElem?_take_of_lt l]
    exact a.2 j l
  · rw [List.getElem?_eq_none (by rw [List.length_take]; omega), List.getElem?_eq_none l]
theorem eqv_on : ∀ on : List (Str × Int), PyData.eqvAll (on.map fun p => PyData.tuple [.str p.1, .int p.2]) (on.map fun p => PyData.tuple [.str p.1, .int p.2]) = true
  | [] => by simp [PyData.eqvAll]
  | p :: r => by
    simp only [List.map_cons, PyData.eqvAll, eqv_on r, PyData.eqv]
    simp
theorem eqv_enc (s : Stp) : PyData.eqv (enc s) (enc s) = true := by
  have h1 := eqvAll_strs s.reads s.reads
  have h2 := eqv_on s.on
  simp [enc, encOn, PyData.eqv, PyData.eqvAll, h1, h2]
/-- x in ws -/
def memB (ws : List PyData) (x : PyData) : Bool := ws.any fun y => PyData.eqv y x
theorem in_list {x : PyData} (ws : List PyData) (h : x.depth ≤ 64) (hs : ∀ s, x ≠ .str s ∨ True) : inD x (.list ws) = some (memB ws x) := by
  cases x <;> simp [inD, inAll, h, memB]
theorem in_nil {x : PyData} (h : x.depth ≤ 64) : inD x (.tuple []) = some false := by
  cases x <;> simp [inD, inAll, h]
theorem cmp_neB (a b : Bool) : cmp .ne (.bool a) (.bool b) = some (!(a == b)) := by
  have hd : deep (.bool a) (.bool b) = true := by simp [deep, PyData.depth]
  simp [cmp, hd, PyData.eqv]
@[simp] theorem t_cmp' (call : Call) (o : Cop) (a b : E) (env : Env) (m : Mem) : (sem call (.cmp o a b)).t env m = ((sem call (.cmp o a b)).v env m).bind truR := rfl
def oneB (p : PyData) : Bool := match p with
  | .tuple [_, .int i] => i == 1
  | _ => false
def oneFirst (on : List (Str × Int)) : Bool := emp ((on.map fun p => PyData.tuple [.str p.1, .int p.2]).filter oneB)
/-- what waits -/
def wts (left : List Stp) : List PyData := left.map fun s => .str s.page
def rdyB (left : List Stp) (s : Stp) : Bool := emp ((s.reads.map PyData.str).filter (memB (wts left)))
def rdy (left : List Stp) : List Stp := left.filter (rdyB left)
def nxt (left : List Stp) : List Stp := if emp (rdy left) then [] else left.filter fun s => !memB ((rdy left).map enc) (enc s)
theorem idx_enc3 (s : Stp) : idx (enc s) (.int 3) = some (.str s.page) := idx3 _ _ _ _ _
theorem idx_enc2 (s : Stp) : idx (enc s) (.int 2) = some (.tuple (s.reads.map PyData.str)) := idx2 _ _ _ _
theorem idx_enc4 (s : Stp) : idx (enc s) (.int 4) = some (encOn s.on) := idx4 _ _ _ _ _ _
theorem nxt_len {left : List Stp} : (rdy left).length + (nxt left).length ≤ left.length ∧ (left ≠ [] → (nxt left).length < left.length) := by
  have hsub : (left.filter fun s => !memB ((rdy left).map enc) (enc s)).length ≤ (left.filter fun s => !rdyB left s).length := by
    refine List.Sublist.length_le ?_
    have : ∀ l : List Stp, (∀ s ∈ l, s ∈ left) → (l.filter fun s => !memB ((rdy left).map enc) (enc s)).Sublist (l.filter fun s => !rdyB left s) := by
      intro l
      induction l with
      | nil => intro _; exact .slnil
      | cons s l ih =>
        intro h
        have ih := ih fun t ht => h t (List.mem_cons_of_mem _ ht)
        cases hr : rdyB left s with
        | true =>
          have hm : memB ((rdy left).map enc) (enc s) = true := by
            unfold memB
            rw [List.any_eq_true]
            exact ⟨enc s, List.mem_map_of_mem (List.mem_filter.mpr ⟨h s List.mem_cons_self, hr⟩), eqv_enc s⟩
          rw [List.filter_cons_of_neg (by simp [hm]), List.filter_cons_of_neg (by simp [hr])]
          exact ih
        | false =>
          rw [List.filter_cons_of_pos (p := fun s => !rdyB left s) (by simp [hr])]
          cases memB ((rdy left).map enc) (enc s) with
          | true => rw [List.filter_cons]; split; (exact ih.cons₂ _); (exact ih.cons _)
          | false => rw [List.filter_cons]; split; (exact ih.cons₂ _); (exact ih.cons _)
    exact this left fun s h => h
  have hsum : (rdy left).length + (left.filter fun s => !rdyB left s).length = left.length := by
    clear hsub
    unfold rdy
    generalize rdyB left = p
    induction left with
    | nil => rfl
    | cons s l ih =>
      cases h : p s <;> simp [List.filter_cons, h] <;> omega
  unfold nxt
  cases he : emp (rdy left) with
  | true =>
    have e0 : rdy left = [] := List.isEmpty_iff.mp he
    simp only [if_true, e0, List.length_nil]
    refine ⟨by omega, fun hl => ?_⟩
    exact List.length_pos_iff.mpr hl
  | false =>
    have e0 : rdy left ≠ [] := fun e => by rw [e] at he; cases he
    have := List.length_pos_iff.mpr e0
    simp only [Bool.false_eq_true, if_false]
    exact ⟨by omega, fun _ => by omega⟩
theorem nxt_sub {left : List Stp} {s : Stp} (h : s ∈ nxt left) : s ∈ left := by
  unfold nxt at h
  split at h
  · cases h
  · exact (List.mem_filter.mp h).1
theorem addL (xs ys : List PyData) (h : xs.length + ys.length ≤ 1000000) : bop .add (.list xs) (.list ys) = some (.fr (xs ++ ys)) := by
  show (if xs.length + ys.length ≤ lim then _ else _) = _
  rw [if_pos (by simp [lim]; omega)]
def onE : E := .cmp .eq (.lc [8] (.nm 8) .seq [(.idx (.var 2) (.cst (.int 4)))] [(.cmp .ne (.cmp .isin (.idx (.var 8) (.cst (.int 0))) (.var 1)) (.cmp .eq (.idx (.var 8) (.cst (.int 1))) (.cst (.int 1))))] (.var 8)) (.lst [])
abbrev env10 (form : PyData) (e2 e3 e4 e5 e6 e7 e8 e9 : Option Val) : Env := [some (.d form), some (.d (.tuple [])), e2, e3, e4, e5, e6, e7, e8, e9]
theorem on_test (call : Call) (form : PyData) (s : Stp) (e3 e4 e5 e6 e7 e8 e9 : Option Val) (m : Mem) : ∃ b, (sem call onE).t (env10 form (some (.d (enc s))) e3 e4 e5 e6 e7 e8 e9) m = .ok b m := by
  refine ⟨oneFirst s.on, ?_⟩
  simp [onE, idx_enc4, encOn]
  rw [lcLoop_pure oneB id rfl]
  · simp [oneFirst]
  · intro p hp
    obtain ⟨q, _, rfl⟩ := List.mem_map.mp hp
    have h1 : cmp .isin (.str q.1) (.tuple []) = some false := by
      simp only [cmp]
      exact in_nil (by simp [PyData.depth])
    simp [idx0, idx1, h1, cmp_neB, oneB]
theorem sp_on1 (wf n : Nat) (ss : List Stp) (m : Mem) (hl : ss.length ≤ 6) : ∃ (left : List Stp) (e2 : Option Val), forLoop (.nm 2) (exB (run T wf n) wf [.iff onE [.app 3 (.var 2)] []]) [] (ss.map enc) (env10 (.tuple (ss.map enc)) none (some (.mr m.length)) (some (.d (.list []))) none none none none none) (m ++ [⟨false, []⟩]) =
    .ok (.next (env10 (.tuple (ss.map enc)) e2 (some (.mr m.length)) (some (.d (.list []))) none none none none none)) (m ++ [⟨false, left.map enc⟩]) ∧ left.length ≤ 6 ∧ ∀ s ∈ left, s ∈ ss := by
  obtain ⟨env', m', h1, e2, left, rfl, rfl, h2, h3⟩ := forLoop_inv (t := .nm 2) (body := exB (run T wf n) wf [.iff onE [.app 3 (.var 2)] []]) (gs := [])
    (fun i env m' => ∃ e2 left, env = env10 (.tuple (ss.map enc)) e2 (some (.mr m.length)) (some (.d (.list []))) none none none none none ∧ m' = m ++ [⟨false, left.map enc⟩] ∧ left.length ≤ i ∧ ∀ s ∈ left, s ∈ ss) (xs := ss.map enc) 0 (env := env10 (.tuple (ss.map enc)) none (some (.mr m.length)) (some (.d (.list []))) none none none none none) (m := m ++ [⟨false, []⟩]) (by
      rintro i x hx env m' ⟨e2, left, rfl, rfl, h2, h3⟩
      rw [List.getElem?_map] at hx
      obtain ⟨s, hs, rfl⟩ := Option.map_eq_some_iff.mp hx
      have hi : i < 6 := by
        have := (List.getElem?_eq_some_iff.mp hs).1
        omega
      obtain ⟨b, hb⟩ := on_test (run T wf n) (.tuple (ss.map enc)) s (some (.mr m.length)) (some (.d (.list []))) none none none none none (m ++ [⟨false, left.map enc⟩])
      cases b with
      | false =>
        refine ⟨env10 (.tuple (ss.map enc)) (some (.d (enc s))) (some (.mr m.length)) (some (.d (.list []))) none none none none none, env10 (.tuple (ss.map enc)) (some (.d (enc s))) (some (.mr m.length)) (some (.d (.list []))) none none none none none, _, by simp, ?_, rfl, some (.d (enc s)), left, rfl, rfl, by omega, h3⟩
        rw [exB_cons, M.x_iff, hb]
        simp
      | true =>
        refine ⟨env10 (.tuple (ss.map enc)) (some (.d (enc s))) (some (.mr m.length)) (some (.d (.list []))) none none none none none, env10 (.tuple (ss.map enc)) (some (.d (enc s))) (some (.mr m.length)) (some (.d (.list []))) none none none none none, _, by simp, ?_, rfl, some (.d (enc s)), left ++ [s], rfl, rfl, by simp; omega, fun t ht => ?_⟩
        · rw [exB_cons, M.x_iff, hb]
          simp only [Res.bind_ok, if_true]
          rw [exB_cons, appCell (j := m.length) (x := enc s) (m1 := m ++ [⟨false, left.map enc⟩]) (xs := left.map enc) (by simp) (by simp) (at_new _ _ _) (by simp; omega)]
          simp
        · rcases List.mem_append.mp ht with ht | ht
          · exact h3 t ht
          · rw [List.mem_singleton.mp ht]; exact List.mem_of_getElem? hs)
    ⟨none, [], rfl, rfl, by simp, by simp⟩
  exact ⟨left, e2, h1, by rw [Nat.zero_add, List.length_map] at h2; omega, h3⟩
end Ra.K0


set_option Elab.async false
set_option linter.all false
set_option maxRecDepth 100000
set_option maxHeartbeats 3200000
namespace Ra.K0
open PySem M _root_.K0
def w1 : S := .set 5 false (.lc [7] (.nm 7) .seq [(.var 3)] [] (.idx (.var 7) (.cst (.int 3))))
def w2 : S := .set 6 false (.lc [7] (.nm 7) .seq [(.var 3)] [(.cmp .eq (.lc [9] (.nm 9) .seq [(.idx (.var 7) (.cst (.int 2)))] [(.cmp .isin (.var 9) (.var 5))] (.var 9)) (.lst []))] (.var 7))
def w3 : S := .set 4 false (.op .add (.var 4) (.var 6))
def w4 : S := .set 3 true (.ite (.cmp .ne (.var 6) (.lst [])) (.lc [7] (.nm 7) .seq [(.var 3)] [(.cmp .notin (.var 7) (.var 6))] (.var 7)) (.lst []))
theorem on_body : b__law_on = [(.par [(3, true), (4, false)] [(.lst []), (.lst [])]), (.for (.nm 2) .seq [(.var 0)] [.iff onE [.app 3 (.var 2)] []]), (.while (.cmp .ne (.var 3) (.lst [])) [w1, w2, w3, w4]), (.ret (.var 4))] := rfl
def pR (ws : List PyData) : PyData → Bool
  | .tuple (_ :: _ :: .tuple rs :: _) => emp (rs.filter (memB ws))
  | _ => false
theorem filter_enc (l : List Stp) (p : PyData → Bool) : (l.map enc).filter p = (l.filter (fun s => p (enc s))).map enc := by rw [List.filter_map]; rfl
theorem same1 {m : Mem} {j : Nat} {c : Cell} (h : m[j]? = some c) : same [j] m m = true := same_of fun k hk => ⟨c, c, by rw [List.mem_singleton.mp hk]; exact h, by rw [List.mem_singleton.mp hk]; exact h, rfl⟩
theorem depth_str (s : Str) : (PyData.str s).depth = 0 := by simp [PyData.depth]
theorem on_step (call : Call) (wf j : Nat) (form : PyData) (left found : List Stp) (m : Mem) (hj : m[j]? = some ⟨false, left.map enc⟩) (hl : found.length + left.length ≤ 6) (e2 e5 e6 e7 e8 e9 : Option Val) :
    ∃ e5' e6', exB call wf [w1, w2, w3, w4] (env10 form e2 (some (.mr j)) (some (.d (.list (found.map enc)))) e5 e6 e7 e8 e9) m = .ok (.next (env10 form e2 (some (.mr m.length)) (some (.d (.list ((found ++ rdy left).map enc)))) e5' e6' e7 e8 e9)) (m ++ [⟨false, (nxt left).map enc⟩]) := by
  have hlk : lookAll m [.mr j] = some [.list (left.map enc)] := lookAll_mr _ hj _
  have hs := same1 hj
  have s1 : exS call wf w1 (env10 form e2 (some (.mr j)) (some (.d (.list (found.map enc)))) e5 e6 e7 e8 e9) m = .ok (.next (env10 form e2 (some (.mr j)) (some (.d (.list (found.map enc)))) (some (.d (.list (wts left)))) e6 e7 e8 e9)) m := by
    simp [w1, hlk]
    rw [lcLoop_map (fun x => match idx x (.int 3) with | some y => y | none => x) hs]
    · simp [wts, idx_enc3]
    · intro x hx
      obtain ⟨s, _, rfl⟩ := List.mem_map.mp hx
      simp [idx_enc3]
  have s2 : exS call wf w2 (env10 form e2 (some (.mr j)) (some (.d (.list (found.map enc)))) (some (.d (.list (wts left)))) e6 e7 e8 e9) m = .ok (.next (env10 form e2 (some (.mr j)) (some (.d (.list (found.map enc)))) (some (.d (.list (wts left)))) (some (.d (.list ((rdy left).map enc)))) e7 e8 e9)) m := by
    simp [w2, hlk]
    rw [lcLoop_pure (pR (wts left)) id hs]
    · rw [filter_enc]
      simp [rdy]
      rfl
    · intro x hx
      obtain ⟨s, _, rfl⟩ := List.mem_map.mp hx
      simp [idx_enc2]
      rw [lcLoop_pure (memB (wts left)) id rfl]
      · simp [pR, enc]
      · intro y hy
        obtain ⟨r, _, rfl⟩ := List.mem_map.mp hy
        have h1 : cmp .isin (.str r) (.list (wts left)) = some (memB (wts left) (.str r)) := by
          simp only [cmp]
          exact in_list _ (by rw [depth_str]; omega) fun _ => .inr trivial
        simp [h1]
  have hr : (rdy left).length ≤ left.length := List.length_filter_le _ _
  have s3 : exS call wf w3 (env10 form e2 (some (.mr j)) (some (.d (.list (found.map enc)))) (some (.d (.list (wts left)))) (some (.d (.list ((rdy left).map enc)))) e7 e8 e9) m = .ok (.next (env10 form e2 (some (.mr j)) (some (.d (.list ((found ++ rdy left).map enc)))) (some (.d (.list (wts left)))) (some (.d (.list ((rdy left).map enc)))) e7 e8 e9)) m := by
    simp [w3, addL (found.map enc) ((rdy left).map enc) (by simp; omega)]
  have s4 : exS call wf w4 (env10 form e2 (some (.mr j)) (some (.d (.list ((found ++ rdy left).map enc)))) (some (.d (.list (wts left)))) (some (.d (.list ((rdy left).map enc)))) e7 e8 e9) m = .ok (.next (env10 form e2 (some (.mr m.length)) (some (.d (.list ((found ++ rdy left).map enc)))) (some (.d (.list (wts left)))) (some (.d (.list ((rdy left).map enc)))) e7 e8 e9)) (m ++ [⟨false, (nxt left).map enc⟩]) := by
    cases he : emp (rdy left) with
    | true => simp [w4, he, nxt]
    | false =>
      simp [w4, he, hlk]
      rw [lcLoop_pure (fun x => !memB ((rdy left).map enc) x) id hs]
      · rw [filter_enc]
        simp [nxt, he]
      · intro x hx
        obtain ⟨s, _, rfl⟩ := List.mem_map.mp hx
        have hin : inD (enc s) (.list ((rdy left).map enc)) = some (memB ((rdy left).map enc) (enc s)) := in_list _ (by have := depth_enc s; omega) fun _ => .inr trivial
        simp [cmp, hin]
  refine ⟨some (.d (.list (wts left))), some (.d (.list ((rdy left).map enc))), ?_⟩
  rw [exB_cons, s1, Res.bind_ok, nextF_next, exB_cons, s2, Res.bind_ok, nextF_next, exB_cons, s3, Res.bind_ok, nextF_next, exB_cons, s4, Res.bind_ok, nextF_next, exB_nil]
theorem on_while (call : Call) (wf : Nat) (form : PyData) (ss : List Stp) (m0 : Mem) (e2 e7 e8 e9 : Option Val) : ∀ (n j : Nat) (left found : List Stp) (m : Mem) (e5 e6 : Option Val), left.length < n → m[j]? = some ⟨false, left.map enc⟩ → found.length + left.length ≤ 6 → (∀ s ∈ left, s ∈ ss) → (∀ s ∈ found, s ∈ ss) → Kp m0 m →
    ∃ (ts : List Stp) (j' : Nat) (e5' e6' : Option Val) (m' : Mem), whileLoop (sem call (.cmp .ne (.var 3) (.lst []))) (exB call wf [w1, w2, w3, w4]) n (env10 form e2 (some (.mr j)) (some (.d (.list (found.map enc)))) e5 e6 e7 e8 e9) m = .ok (.next (env10 form e2 (some (.mr j')) (some (.d (.list (ts.map enc)))) e5' e6' e7 e8 e9)) m' ∧
      ts.length ≤ 6 ∧ (∀ s ∈ ts, s ∈ ss) ∧ Kp m0 m' := by
  intro n
  induction n with
  | zero => intro j left found m e5 e6 h; omega
  | succ n ih =>
    intro j left found m e5 e6 h hj hl hs hf hk
    have hrd : rdR m (.mr j) = .ok (.list (left.map enc)) m := rdR_mr _ hj
    have ht : (sem call (.cmp .ne (.var 3) (.lst []))).t (env10 form e2 (some (.mr j)) (some (.d (.list (found.map enc)))) e5 e6 e7 e8 e9) m = .ok (!emp left) m := by
      simp [hrd]
    unfold whileLoop
    rw [ht]
    cases left with
    | nil => exact ⟨found, j, e5, e6, m, rfl, by simpa using hl, hf, hk⟩
    | cons s l =>
      obtain ⟨e5', e6', hb⟩ := on_step call wf j form (s :: l) found m hj hl e2 e5 e6 e7 e8 e9
      obtain ⟨n1, n2⟩ := nxt_len (left := s :: l)
      have n3 := n2 (by simp)
      simp only [Res.bind_ok]
      rw [if_pos (by rfl), hb]
      simp only [Res.bind_ok]
      refine ih m.length (nxt (s :: l)) (found ++ rdy (s :: l)) _ e5' e6' (by omega) (at_new _ _ _) (by rw [List.length_append]; omega) (fun t ht => hs t (nxt_sub ht)) (fun t ht => ?_) (hk.trans (Kp.app _ _))
      rcases List.mem_append.mp ht with ht | ht
      · exact hf t ht
      · exact hs t (List.mem_filter.mp ht).1
theorem sp_lon (wf n : Nat) (ss : List Stp) (m : Mem) (hw : 6 < wf) (hl : ss.length ≤ 6) : ∃ ts : List Stp, run T wf (n + 1) 14 [.d (.tuple (ss.map enc)), .d (.tuple [])] m = .ok (.d (.list (ts.map enc))) m ∧ ts.length ≤ 6 ∧ ∀ s ∈ ts, s ∈ ss := by
  rw [run_succ d__law_on.fnT rfl rfl (by decide)]
  obtain ⟨left, e2, h1, h2, h3⟩ := sp_on1 wf n ss m hl
  obtain ⟨ts, j', e5', e6', m', h4, h5, h6, h7⟩ := on_while (run T wf n) wf (.tuple (ss.map enc)) ss m e2 none none none wf m.length left [] (m ++ [⟨false, left.map enc⟩]) none none (by omega) (at_new _ _ _) (by simpa using h2) h3 (by simp) (Kp.app _ _)
  refine ⟨ts, ?_, h5, h6⟩
  rw [show d__law_on.fnT.body = b__law_on from rfl, on_body]
  simp only [List.map_nil] at h4
  simp [d__law_on, Df.fnT, h1, h4, h7.cut]
end Ra.K0


set_option Elab.async false
set_option linter.all false
set_option maxRecDepth 100000
set_option maxHeartbeats 3200000
namespace Ra.K0
open PySem M _root_.K0
/-- a comprehension whose test draws -/
theorem lcLoop_sel {t : Tg} {tests : List P} {elt : P} {gs : List Nat} {env : Env} (J : Nat → Mem → Prop) : ∀ {xs : List PyData} (n0 : Nat) {m : Mem},
    (∀ i x, xs[i]? = some x → ∀ m, J (n0 + i) m → ∃ env' b m1, asg t x env = some env' ∧ tAll tests env' m = .ok b m1 ∧ elt.v env' m1 = .ok (.d x) m1 ∧ same gs m m1 = true ∧ J (n0 + i + 1) m1) → J n0 m →
    ∃ ys m', lcLoop t tests elt gs env xs m = .ok ys m' ∧ ys.length ≤ xs.length ∧ (∀ y ∈ ys, y ∈ xs) ∧ J (n0 + xs.length) m'
  | [], n0, m, _, h0 => ⟨[], m, rfl, by simp, by simp, by simpa using h0⟩
  | x :: xs, n0, m, h, h0 => by
    obtain ⟨env', b, m1, a1, a2, a3, a4, a5⟩ := h 0 x rfl m (by simpa using h0)
    obtain ⟨ys, m', b1, b2, b3, b4⟩ := lcLoop_sel J (xs := xs) (n0 + 1) (m := m1) (fun i z hz m hm => by
      obtain ⟨env', b, m1, c1, c2, c3, c4, c5⟩ := h (i + 1) z (by simpa using hz) m (by rw [show n0 + (i + 1) = n0 + 1 + i by omega]; exact hm)
      exact ⟨env', b, m1, c1, c2, c3, c4, by rw [show n0 + 1 + i + 1 = n0 + (i + 1) + 1 by omega]; exact c5⟩) (by simpa using a5)
    have hJ : J (n0 + (x :: xs).length) m' := by rw [List.length_cons, show n0 + (xs.length + 1) = n0 + 1 + xs.length by omega]; exact b4
    cases b with
    | true =>
      refine ⟨x :: ys, m', ?_, by simp; omega, fun z hz => ?_, hJ⟩
      · unfold lcLoop
        rw [a1]
        simp [a2, a3, a4, b1]
      · rcases List.mem_cons.mp hz with rfl | hz
        · exact List.mem_cons_self
        · exact List.mem_cons_of_mem _ (b3 z hz)
    | false =>
      refine ⟨ys, m', ?_, by simp; omega, fun z hz => List.mem_cons_of_mem _ (b3 z hz), hJ⟩
      unfold lcLoop
      rw [a1]
      simp [a2, a4, b1]
theorem strs_of {ys : List PyData} (h : ∀ y ∈ ys, ∃ s, y = .str s ∧ tg s) : ∃ ks : List Str, ys = ks.map PyData.str ∧ ∀ k ∈ ks, tg k := by
  induction ys with
  | nil => exact ⟨[], rfl, by simp⟩
  | cons y ys ih =>
    obtain ⟨s, rfl, hs⟩ := h y List.mem_cons_self
    obtain ⟨ks, rfl, hk⟩ := ih fun z hz => h z (List.mem_cons_of_mem _ hz)
    exact ⟨s :: ks, rfl, fun k hkm => (List.mem_cons.mp hkm).elim (fun e => e ▸ hs) (hk k)⟩
abbrev marks : List PyData := [.str "va", .str "vb"]
theorem tg_marks : ∀ y ∈ marks, ∃ s, y = .str s ∧ tg s := by
  intro y hy
  simp only [List.mem_cons, List.not_mem_nil, or_false] at hy
  rcases hy with rfl | rfl <;> exact ⟨_, rfl, by unfold tg; decide +kernel⟩
def encPr (p : Str × Str) : PyData := .tuple [.str p.1, .str p.2]
abbrev env9 (k : Nat) (form : PyData) (e4 e5 e6 e7 e8 : Option Val) : Env := [some (.mr k), some (.d form), some (.d (.tuple [])), some (.d (.list marks)), e4, e5, e6, e7, e8]
def st3 : List S := [(.set 5 false (.op .add (.var 5) (.lc [8] (.nm 8) .seq [(.idx (.var 6) (.cst (.int 2)))] [(.cmp .notin (.var 8) (.var 4))] (.var 8))))]
theorem zip_marks : ∀ {pages : List Str} {ys : List PyData}, ys.length = pages.length → (∀ (i : Nat) (y : PyData), ys[i]? = some y → ∃ s k, y = .tuple [.str k, .str s] ∧ tg s ∧ pages[i]? = some k) → ∃ ps : List (Str × Str), ys = ps.map encPr ∧ ps.map Prod.fst = pages ∧ ∀ p ∈ ps, tg p.2
  | [], [], _, _ => ⟨[], rfl, rfl, by simp⟩
  | [], _ :: _, h, _ => by simp at h
  | _ :: _, [], h, _ => by simp at h
  | k :: pages, y :: ys, h, hp => by
    obtain ⟨s, k', rfl, h1, h2⟩ := hp 0 y rfl
    obtain ⟨ps, rfl, h3, h4⟩ := zip_marks (pages := pages) (ys := ys) (by simpa using h) fun i z hz => by
      obtain ⟨s, k, a, b, c⟩ := hp (i + 1) z (by simpa using hz)
      exact ⟨s, k, a, b, by simpa using c⟩
    have e : k = k' := by simpa using h2
    subst e
    exact ⟨(k, s) :: ps, rfl, by simp [h3], fun p hpm => (List.mem_cons.mp hpm).elim (fun e => e ▸ h1) (h4 p)⟩
end Ra.K0


set_option Elab.async false
set_option linter.all false
set_option maxRecDepth 100000
set_option maxHeartbeats 3200000
namespace Ra.K0
open PySem M _root_.K0
theorem lcLoop_at {t : Tg} {elt : P} {gs : List Nat} {env : Env} (J : Nat → Mem → Prop) (Pr : Nat → PyData → Prop) : ∀ {xs : List PyData} (n0 : Nat) {m : Mem},
    (∀ i x, xs[i]? = some x → ∀ m, J (n0 + i) m → ∃ env' v m2 y m3, asg t x env = some env' ∧ elt.v env' m = .ok v m2 ∧ frz v m2 = .ok y m3 ∧ same gs m m3 = true ∧ J (n0 + i + 1) m3 ∧ Pr (n0 + i) y) → J n0 m →
    ∃ ys m', lcLoop t [] elt gs env xs m = .ok ys m' ∧ ys.length = xs.length ∧ (∀ i y, ys[i]? = some y → Pr (n0 + i) y) ∧ J (n0 + xs.length) m'
  | [], n0, m, _, h0 => ⟨[], m, rfl, rfl, by simp, by simpa using h0⟩
  | x :: xs, n0, m, h, h0 => by
    obtain ⟨env', v, m2, y, m3, a1, a2, a3, a4, a5, a6⟩ := h 0 x rfl m (by simpa using h0)
    obtain ⟨ys, m', b1, b2, b3, b4⟩ := lcLoop_at J Pr (xs := xs) (n0 + 1) (m := m3) (fun i z hz m hm => by
      obtain ⟨env', v, m2, y, m3, c1, c2, c3, c4, c5, c6⟩ := h (i + 1) z (by simpa using hz) m (by rw [show n0 + (i + 1) = n0 + 1 + i by omega]; exact hm)
      exact ⟨env', v, m2, y, m3, c1, c2, c3, c4, by rw [show n0 + 1 + i + 1 = n0 + (i + 1) + 1 by omega]; exact c5, by rw [show n0 + 1 + i = n0 + (i + 1) by omega]; exact c6⟩) (by simpa using a5)
    refine ⟨y :: ys, m', ?_, by simp [b2], fun i z hz => ?_, by rw [List.length_cons, show n0 + (xs.length + 1) = n0 + 1 + xs.length by omega]; exact b4⟩
    · unfold lcLoop
      rw [a1]
      simp [tAll, a2, a3, a4, b1]
    · cases i with
      | zero => simp at hz; subst hz; exact a6
      | succ i => rw [show n0 + (i + 1) = n0 + 1 + i by omega]; exact b3 i z (by simpa using hz)
theorem countB_prs {ps : List (Str × Str)} (h1 : ∀ p ∈ ps, tg p.1 ∧ tg p.2) (h2 : risB (ps.map Prod.fst) = true) : countB (.tuple (ps.map encPr)) = true := by
  rw [countB, Bool.and_eq_true, Bool.and_eq_true]
  refine ⟨allB_of fun x hx => ?_, allB_of fun x hx => ?_, ?_⟩
  · obtain ⟨p, _, rfl⟩ := List.mem_map.mp hx; rfl
  · obtain ⟨p, hp, rfl⟩ := List.mem_map.mp hx
    obtain ⟨a, b⟩ := h1 p hp
    unfold tg at a b
    simp [encPr, fst, snd, a, b]
  · have e : firsts (ps.map encPr) = ps.map Prod.fst := by
      unfold firsts
      rw [List.map_map]
      rfl
    rw [e]
    exact h2
theorem sp_stock (wf n k N : Nat) (m : Mem) (ss : List Stp) (hw : 6 < wf) (hok : ∀ s ∈ ss, OkS s) (hl : ss.length ≤ 6) (hB : Bx k N m) (hN : N < 10000000) :
    ∃ (ps : List (Str × Str)) (m' : Mem), run T wf (n + 3) 15 [.mr k, .d (.tuple (ss.map enc)), .d (.tuple []), .d (.list marks)] m = .ok (.d (.tuple (ps.map encPr))) m' ∧ ps.length ≤ 24 ∧ countB (.tuple (ps.map encPr)) = true ∧ Bx k (N + 30) m' ∧ Up k m m' := by
  rw [run_succ d__law_stock.fnT rfl rfl (by decide)]
  obtain ⟨ts, h1, h2, h3⟩ := sp_lon wf (n + 1) ss m hw hl
  have hts : ∀ s ∈ ts, OkS s := fun s hs => hok s (h3 s hs)
  obtain ⟨env', m1, f1, e6, need, rfl, rfl, f2, f3⟩ := forLoop_inv (t := .nm 6) (body := exB (run T wf (n + 2)) wf st3) (gs := [])
    (fun i env m' => ∃ e6 need, env = env9 k (.tuple (ss.map enc)) (some (.d (.list (wts ts)))) (some (.d (.list (need.map PyData.str)))) e6 none none ∧ m' = m ∧ need.length ≤ 3 * i ∧ ∀ r ∈ need, tg r) (xs := ts.map enc) 0 (env := env9 k (.tuple (ss.map enc)) (some (.d (.list (wts ts)))) (some (.d (.list []))) none none none) (m := m) (by
      rintro i x hx env m' ⟨e6, need, rfl, rfl, f2, f3⟩
      rw [List.getElem?_map] at hx
      obtain ⟨s, hs, rfl⟩ := Option.map_eq_some_iff.mp hx
      have hi : i < 6 := by
        have := (List.getElem?_eq_some_iff.mp hs).1
        omega
      have ho := hts s (List.mem_of_getElem? hs)
      have hfr : ((s.reads.map PyData.str).filter fun x => !memB (wts ts) x) = (s.reads.filter fun r => !memB (wts ts) (.str r)).map PyData.str := by rw [List.filter_map]; rfl
      have hlf : (s.reads.filter fun r => !memB (wts ts) (.str r)).length ≤ 3 := Nat.le_trans (List.length_filter_le _ _) ho.few
      refine ⟨env9 k (.tuple (ss.map enc)) (some (.d (.list (wts ts)))) (some (.d (.list (need.map PyData.str)))) (some (.d (enc s))) none none, env9 k (.tuple (ss.map enc)) (some (.d (.list (wts ts)))) (some (.d (.list ((need ++ s.reads.filter fun r => !memB (wts ts) (.str r)).map PyData.str)))) (some (.d (enc s))) none none, m', by simp, ?_, rfl, some (.d (enc s)), need ++ s.reads.filter fun r => !memB (wts ts) (.str r), rfl, rfl, by rw [List.length_append]; omega, fun r hr => ?_⟩
      · simp [st3, idx_enc2]
        rw [lcLoop_pure (fun x => !memB (wts ts) x) id rfl]
        · rw [hfr]
          simp
          rw [addL _ _ (by simp; omega)]
          simp
        · intro y hy
          obtain ⟨r, _, rfl⟩ := List.mem_map.mp hy
          have q : inD (.str r) (.list (wts ts)) = some (memB (wts ts) (.str r)) := in_list _ (by rw [depth_str]; omega) fun _ => .inr trivial
          simp [cmp, q]
      · rcases List.mem_append.mp hr with hr | hr
        · exact f3 r hr
        · exact ho.reads r (List.mem_filter.mp hr).1)
    ⟨none, [], rfl, rfl, by simp, by simp⟩
  rw [Nat.zero_add, List.length_map] at f2
  have hwt : (wts ts).length = ts.length := by simp [wts]
  obtain ⟨ys, m2, g1, g2, g3, g4, g5⟩ := lcLoop_sel (t := .nm 8) (tests := sems (run T wf (n + 2)) [(.cmp .eq (.call 8 [(.var 0), (.cst (.int 5))]) (.cst (.int 0)))]) (elt := sem (run T wf (n + 2)) (.var 8)) (gs := []) (env := env9 k (.tuple (ss.map enc)) (some (.d (.list (wts ts)))) (some (.d (.list (need.map PyData.str)))) e6 none none)
    (fun i m' => Bx k (N + i) m' ∧ Up k m1 m') (xs := wts ts) 0 (m := m1) (by
      rintro i x hx m' ⟨a, b⟩
      rw [Nat.zero_add] at a ⊢
      have hi : i < 6 := by
        have := (List.getElem?_eq_some_iff.mp hx).1
        omega
      obtain ⟨r, m2, c1, c2, c3, c4, c5⟩ := sp_take wf (n + 1) k (N + i) m' 5 a (by omega) (by omega) (by omega)
      exact ⟨env9 k (.tuple (ss.map enc)) (some (.d (.list (wts ts)))) (some (.d (.list (need.map PyData.str)))) e6 none (some (.d x)), r == 0, m2, by simp, by simp [c1], by simp, rfl, c4, b.trans c5⟩)
    ⟨hB, Up.refl _ _⟩
  rw [Nat.zero_add] at g4
  obtain ⟨more, rfl, hmore⟩ := strs_of (ys := ys) fun y hy => by
    obtain ⟨s, hs, rfl⟩ := List.mem_map.mp (g3 y hy)
    exact ⟨_, rfl, (hts s hs).page⟩
  rw [List.length_map] at g2
  have hlen : (need ++ more).length < 25 := by rw [List.length_append]; omega
  obtain ⟨M, hM, hMp⟩ := isort_map (firstS [] (need ++ more))
  have hMr : risB M = true := by
    refine ris_of_sorted ?_ (hMp.nodup_iff.mpr (firstS_isNodup .nil))
    rw [← hM]
    exact isort_sorted _ _ .nil
  have hMt : ∀ x ∈ M, tg x := fun x hx => by
    rcases firstS_mem.mp (hMp.mem_iff.mp hx) with q | q
    · cases q
    · rcases List.mem_append.mp q with q | q
      · exact f3 x q
      · exact hmore x q
  have hMl : M.length < 25 := by
    rw [hMp.length_eq]
    have := firstS_len (need ++ more) []
    rw [List.length_nil] at this
    omega
  obtain ⟨zs, m3, k1, k2, k3, k4, k5⟩ := lcLoop_at (t := .nm 8) (elt := sem (run T wf (n + 2)) (.tup [(.var 8), (.call 10 [(.var 0), (.var 3)])])) (gs := []) (env := env9 k (.tuple (ss.map enc)) (some (.d (.list (wts ts)))) (some (.d (.list (need.map PyData.str)))) e6 (some (.d (.list (more.map PyData.str)))) none)
    (fun i m' => Bx k (N + (wts ts).length + i) m' ∧ Up k m1 m') (fun i y => ∃ s kk, y = .tuple [.str kk, .str s] ∧ tg s ∧ M[i]? = some kk) (xs := M.map PyData.str) 0 (m := m2) (by
      rintro i x hx m' ⟨a, b⟩
      rw [Nat.zero_add] at a ⊢
      rw [List.getElem?_map] at hx
      obtain ⟨kk, hkk, rfl⟩ := Option.map_eq_some_iff.mp hx
      have hi : i < 25 := by
        have := (List.getElem?_eq_some_iff.mp hkk).1
        omega
      obtain ⟨y, m4, c1, c2, c3, c4⟩ := sp_of wf n k (N + (wts ts).length + i) m' (.d (.list marks)) (.list marks) marks rfl (by simp) rfl (.inl rfl) a (by omega) (by simp) (by simp)
      obtain ⟨mk, rfl, hmk⟩ := tg_marks y c2
      exact ⟨env9 k (.tuple (ss.map enc)) (some (.d (.list (wts ts)))) (some (.d (.list (need.map PyData.str)))) e6 (some (.d (.list (more.map PyData.str)))) (some (.d (.str kk))), .d (.tuple [.str kk, .str mk]), m4, .tuple [.str kk, .str mk], m4, by simp, by simp [c1], rfl, rfl, ⟨c3, b.trans c4⟩, mk, kk, rfl, hmk, hkk⟩)
    ⟨g4, g5⟩
  obtain ⟨ps, rfl, p1, p2⟩ := zip_marks (pages := M) (ys := zs) (by rw [k2, List.length_map]) fun i y hy => by
    have := k3 i y hy
    rw [Nat.zero_add] at this
    exact this
  rw [Nat.zero_add, List.length_map] at k4
  refine ⟨ps, m3, ?_, ?_, countB_prs (fun p hp => ⟨hMt p.1 (by rw [← p1]; exact List.mem_map_of_mem hp), p2 p hp⟩) (by rw [p1]; exact hMr), k4.mono (by omega), k5⟩
  · simp [d__law_stock, Df.fnT, b__law_stock, h1]
    rw [lcLoop_map (fun x => match idx x (.int 3) with | some y => y | none => x) rfl]
    · have hw2 : (ts.map enc).map (fun x => match idx x (.int 3) with | some y => y | none => x) = wts ts := by
        rw [List.map_map]
        unfold wts
        refine List.map_congr_left fun s _ => ?_
        simp [idx_enc3]
      rw [hw2]
      simp [h1]
      have f1' := f1
      unfold st3 at f1'
      rw [f1']
      simp
      rw [g1]
      simp
      rw [addL _ _ (by simp; omega)]
      have hss := sortedset_strs (need ++ more) (by omega)
      rw [List.map_append] at hss
      simp [hss, hM]
      have k1' : lcLoop (.nm 8) (sems (run T wf (n + 2)) []) (sem (run T wf (n + 2)) (.tup [(.var 8), (.call 10 [(.var 0), (.var 3)])])) [] (env9 k (.tuple (ss.map enc)) (some (.d (.list (wts ts)))) (some (.d (.list (need.map PyData.str)))) e6 (some (.d (.list (more.map PyData.str)))) none) (M.map PyData.str) m2 = .ok (ps.map encPr) m3 := k1
      rw [k1']
      simp [← k5.1]
    · intro x hx
      obtain ⟨s, _, rfl⟩ := List.mem_map.mp hx
      simp [idx_enc3]
  · have := congrArg List.length p1
    rw [List.length_map] at this
    omega
end Ra.K0


set_option Elab.async false
set_option linter.all false
set_option maxRecDepth 100000
set_option maxHeartbeats 3200000
namespace Ra.K0
open PySem M _root_.K0
def atomB : PyData → Bool
  | .list _ => false
  | .tuple _ => false
  | .dict _ => false
  | _ => true
inductive Ft (L : Nat) : Nat → PyData → Prop
  | atom {D : Nat} {x : PyData} : atomB x = true → Ft L D x
  | list {D : Nat} {xs : List PyData} : xs.length ≤ L → (∀ x ∈ xs, Ft L D x) → Ft L (D + 1) (.list xs)
  | tup {D : Nat} {xs : List PyData} : xs.length ≤ L → (∀ x ∈ xs, Ft L D x) → Ft L (D + 1) (.tuple xs)
theorem Ft.mono {L L' : Nat} (hL : L ≤ L') : ∀ {D D' : Nat} {x : PyData}, Ft L D x → D ≤ D' → Ft L' D' x := by
  intro D D' x h
  induction h generalizing D' with
  | atom h => exact fun _ => .atom h
  | list h1 h2 ih =>
    intro hd
    obtain ⟨E, rfl⟩ : ∃ E, D' = E + 1 := ⟨D' - 1, by omega⟩
    exact .list (by omega) fun x hx => ih x hx (by omega)
  | tup h1 h2 ih =>
    intro hd
    obtain ⟨E, rfl⟩ : ∃ E, D' = E + 1 := ⟨D' - 1, by omega⟩
    exact .tup (by omega) fun x hx => ih x hx (by omega)
theorem Ft.nice {L : Nat} (hL : L < 4000) : ∀ {D : Nat} {x : PyData}, Ft L D x → niceB x = true ∧ x.depth ≤ D := by
  intro D x h
  induction h with
  | atom h => cases ‹PyData› <;> first | (cases h; done) | exact ⟨by simp [niceB], by simp [PyData.depth]⟩
  | list h1 h2 ih =>
    refine ⟨by rw [niceB, Bool.and_eq_true]; exact ⟨decide_eq_true (by omega), niceAll_of fun x hx => (ih x hx).1⟩, ?_⟩
    rw [PyData.depth]
    have := depthAll_le fun x hx => (ih x hx).2
    omega
  | tup h1 h2 ih =>
    refine ⟨by rw [niceB, Bool.and_eq_true]; exact ⟨decide_eq_true (by omega), niceAll_of fun x hx => (ih x hx).1⟩, ?_⟩
    rw [PyData.depth]
    have := depthAll_le fun x hx => (ih x hx).2
    omega
theorem Ft.isNice {L D : Nat} {x : PyData} (h : Ft L D x) (hL : L < 4000) (hD : D ≤ 64) : Nice x := ⟨(h.nice hL).1, Nat.le_trans (h.nice hL).2 hD⟩
abbrev odd14 : List PyData := [.str "pa", .str "sa", .str "", .str "A", .none, .int 0, .int 1, .int 2, .bool true, .tuple [], .tuple [.str "sa"], .tuple [.str "sa", .int 1], .tuple [.str "sa", .str "va"], .list []]
abbrev odd15 : PyData := .tuple [.str "tz", .str "ma", .tuple [], .str "pz", .tuple []]
def fitB (L : Nat) : Nat → PyData → Bool
  | 0, x => atomB x
  | D + 1, .list xs => decide (xs.length ≤ L) && xs.all (fitB L D)
  | D + 1, .tuple xs => decide (xs.length ≤ L) && xs.all (fitB L D)
  | _ + 1, x => atomB x
theorem fit_ok {L : Nat} : ∀ {D : Nat} {x : PyData}, fitB L D x = true → Ft L D x
  | 0, x, h => .atom h
  | D + 1, x, h => by
    cases x with
    | list xs =>
      rw [fitB, Bool.and_eq_true, decide_eq_true_eq, List.all_eq_true] at h
      exact .list h.1 fun y hy => fit_ok (h.2 y hy)
    | tuple xs =>
      rw [fitB, Bool.and_eq_true, decide_eq_true_eq, List.all_eq_true] at h
      exact .tup h.1 fun y hy => fit_ok (h.2 y hy)
    | dict d => cases h
    | _ => exact .atom rfl
theorem odd_ft : ∀ y ∈ odd14 ++ [odd15], Ft 5 2 y := fun y hy => fit_ok (List.all_eq_true.mp (show (odd14 ++ [odd15]).all (fitB 5 2) = true by decide +kernel) y hy)
theorem cut_lo {α : Type} (xs : List α) (k : Nat) (h : k ≤ xs.length) : cut xs (some (k : Int)) none = xs.drop k := by
  unfold cut
  rw [HT.sIx_nat, HT.sIx_none, Nat.min_eq_left h, List.take_of_length_le (by simp)]
theorem cut_hi {α : Type} (xs : List α) (k : Nat) (h : k ≤ xs.length) : cut xs none (some (k : Int)) = xs.take k := by
  unfold cut
  rw [HT.sIx_nat, HT.sIx_none, Nat.min_eq_left h]
  simp
theorem set_new (m : Mem) (c c' : Cell) : (m ++ [c]).set m.length c' = m ++ [c'] := by simp
/-- what spoilt hands back: a value that stands for y -/
structure Out (v : Val) (y : PyData) : Prop where
  nf : v.nf = .d y
  fz : ∀ m, frz v m = .ok y m
theorem Out.d (y : PyData) : Out (.d y) y := ⟨rfl, fun _ => rfl⟩
theorem Out.fr (ys : List PyData) : Out (.fr ys) (.list ys) := ⟨rfl, fun _ => rfl⟩
abbrev spH : List S := [(.set 3 true (.lst [(.cst (.str "pa")), (.cst (.str "sa")), (.cst (.str "")), (.cst (.str "A")), (.cst .none), (.cst (.int 0)), (.cst (.int 1)), (.cst (.int 2)), (.cst (.bool true)), (.tup []), (.tup [(.cst (.str "sa"))]), (.tup [(.cst (.str "sa")), (.cst (.int 1))]), (.tup [(.cst (.str "sa")), (.cst (.str "va"))]), (.lst [])])), (.app 3 (.tup [(.cst (.str "tz")), (.cst (.str "ma")), (.tup []), (.cst (.str "pz")), (.tup [])]))]
def spC : E := .bor [(.cmp .eq (.var 2) (.cst (.int 0))), (.not (.isi (.var 1) [.list, .tuple])), (.cmp .eq (.bi .len [(.var 1)]) (.cst (.int 0)))]
def spT : List S := [(.par [(5, false), (6, false)] [(.call 8 [(.var 0), (.cst (.int 7))]), (.call 8 [(.var 0), (.bi .len [(.var 1)])])]), (.set 4 true (.bi .list [(.var 1)])), (.iff (.cmp .eq (.var 5) (.cst (.int 0))) [(.ret (.bi .list [(.var 1)]))] []), (.iff (.cmp .eq (.var 5) (.cst (.int 1))) [(.ret (.bi .tuple [(.op .add (.slU (.var 4) (.var 6)) (.slL (.var 4) (.op .add (.var 6) (.cst (.int 1)))))]))] []), (.iff (.cmp .eq (.var 5) (.cst (.int 2))) [(.ret (.bi .tuple [(.op .add (.slU (.var 4) (.op .add (.var 6) (.cst (.int 1)))) (.slL (.var 4) (.var 6)))]))] []), (.iff (.cmp .eq (.var 5) (.cst (.int 3))) [(.ret (.bi .tuple [(.op .add (.op .add (.slU (.var 4) (.var 6)) (.lst [(.call 10 [(.var 0), (.var 3)])])) (.slL (.var 4) (.var 6)))]))] []), (.iff (.cmp .eq (.var 5) (.cst (.int 4))) [(.ret (.bi .tuple [(.rev (.var 4))]))] []), (.put 4 (.var 6) (.call 23 [(.var 0), (.idx (.var 4) (.var 6)), (.op .sub (.var 2) (.cst (.int 1)))])), (.ret (.bi .tuple [(.var 4)]))]
theorem sp_body0 : b__law_spoilt = spH ++ (.iff spC [(.ret (.call 10 [(.var 0), (.var 3)]))] [] :: spT) := rfl
theorem sp_head (call : Call) (wf k : Nat) (x : PyData) (d : Int) (m : Mem) (r : List S) : exB call wf (spH ++ r) [some (.mr k), some (.d x), some (.d (.int d)), none, none, none, none] m = exB call wf r [some (.mr k), some (.d x), some (.d (.int d)), some (.mr m.length), none, none, none] (m ++ [⟨false, odd14 ++ [odd15]⟩]) := by
  simp only [spH, List.cons_append, List.nil_append]
  rw [M.exB_cons]
  have h1 : exS call wf (.set 3 true (.lst [(.cst (.str "pa")), (.cst (.str "sa")), (.cst (.str "")), (.cst (.str "A")), (.cst .none), (.cst (.int 0)), (.cst (.int 1)), (.cst (.int 2)), (.cst (.bool true)), (.tup []), (.tup [(.cst (.str "sa"))]), (.tup [(.cst (.str "sa")), (.cst (.int 1))]), (.tup [(.cst (.str "sa")), (.cst (.str "va"))]), (.lst [])])) [some (.mr k), some (.d x), some (.d (.int d)), none, none, none, none] m = .ok (.next [some (.mr k), some (.d x), some (.d (.int d)), some (.mr m.length), none, none, none]) (m ++ [⟨false, odd14⟩]) := by simp
  rw [h1, Res.bind_ok, nextF_next, M.exB_cons, appCell (j := m.length) (m1 := m ++ [⟨false, odd14⟩]) (x := odd15) (xs := odd14) (by simp) (by simp) (at_new _ _ _) (by simp), Res.bind_ok, nextF_next, set_new]
  rfl
theorem ft_sub {L D : Nat} {xs ys : List PyData} (h : ∀ x ∈ xs, Ft L D x) (hs : ∀ y ∈ ys, y ∈ xs ∨ Ft 5 2 y) (hL : 5 ≤ L) (hD : 2 ≤ D) : ∀ y ∈ ys, Ft (L + 1) D y := fun y hy => by
  rcases hs y hy with q | q
  · exact (h y q).mono (Nat.le_succ _) (Nat.le_refl _)
  · exact q.mono (by omega) hD
theorem ft_items {L D : Nat} {x : PyData} (h : Ft L D x) (ha : atomB x = false) : ∃ (E : Nat) (xs : List PyData), D = E + 1 ∧ (x = .list xs ∨ x = .tuple xs) ∧ xs.length ≤ L ∧ ∀ y ∈ xs, Ft L E y := by
  cases h with
  | atom h => rw [h] at ha; cases ha
  | list h1 h2 => exact ⟨_, _, rfl, .inl rfl, h1, h2⟩
  | tup h1 h2 => exact ⟨_, _, rfl, .inr rfl, h1, h2⟩
theorem sp_spoilt (wf k L : Nat) (hL : 5 ≤ L ∧ L < 1000) : ∀ (d n N D : Nat) (m : Mem) (x : PyData), Ft L D x → d + 3 ≤ D → Bx k N m → N + 10 * (d + 1) < 10000000 →
    ∃ (v : Val) (y : PyData) (m' : Mem), run T wf (n + d + 3) 23 [.mr k, .d x, .d (.int d)] m = .ok v m' ∧ Out v y ∧ Ft (L + 1) D y ∧ Bx k (N + 4 * (d + 1)) m' ∧ Up k m m' := by
  intro d
  induction d with
  | zero =>
    intro n N D m x hx hD hB hN
    have hk := hB.lt
    rw [show n + 0 + 3 = n + 2 + 1 from rfl, run_succ d__law_spoilt.fnT rfl rfl (by decide)]
    rw [show d__law_spoilt.fnT.body = b__law_spoilt from rfl, sp_body0]
    obtain ⟨y, m', h1, h2, h3, h4⟩ := sp_of wf n k N (m ++ [⟨false, odd14 ++ [odd15]⟩]) (.mr m.length) (.list (odd14 ++ [odd15])) (odd14 ++ [odd15]) rfl (fun e => by cases e; omega) (by show ((m ++ [_])[m.length]?).map _ = _; rw [at_new]; rfl) (.inl rfl) (hB.app _) (by omega) (by simp) (by simp)
    refine ⟨.d y, y, m'.take m.length, ?_, .d y, (odd_ft y h2).mono (by omega) (by omega), (h3.cut hk).mono (by omega), ((Gr.app k m [⟨false, odd14 ++ [odd15]⟩]).trans h4.gr).up⟩
    have hh := sp_head (run T wf (n + 2)) wf k x 0 m (.iff spC [(.ret (.call 10 [(.var 0), (.var 3)]))] [] :: spT)
    rw [show (List.map some [Val.mr k, .d x, .d (.int ((0 : Nat) : Int))] ++ List.replicate (d__law_spoilt.fnT.n - d__law_spoilt.fnT.ps) none) = [some (.mr k), some (.d x), some (.d (.int 0)), none, none, none, none] from rfl, hh]
    generalize m ++ [⟨false, odd14 ++ [odd15]⟩] = m1 at h1
    simp [spC, h1]
  | succ d ih =>
    intro n N D m x hx hD hB hN
    have hk := hB.lt
    rw [show n + (d + 1) + 3 = n + d + 3 + 1 from rfl, run_succ d__law_spoilt.fnT rfl rfl (by decide)]
    rw [show d__law_spoilt.fnT.body = b__law_spoilt from rfl, sp_body0]
    have hh := sp_head (run T wf (n + d + 3)) wf k x ((d + 1 : Nat) : Int) m (.iff spC [(.ret (.call 10 [(.var 0), (.var 3)]))] [] :: spT)
    rw [show (List.map some [Val.mr k, .d x, .d (.int ((d + 1 : Nat) : Int))] ++ List.replicate (d__law_spoilt.fnT.n - d__law_spoilt.fnT.ps) none) = [some (.mr k), some (.d x), some (.d (.int ((d + 1 : Nat) : Int))), none, none, none, none] from rfl, hh]
    obtain ⟨m1, hm1⟩ : ∃ z : Mem, z = m ++ [⟨false, odd14 ++ [odd15]⟩] := ⟨_, rfl⟩
    have B1 : Bx k N m1 := by rw [hm1]; exact hB.app _
    have G1 : Gr k m m1 := by rw [hm1]; exact Gr.app _ _ _
    have O1 : m1[m.length]? = some ⟨false, odd14 ++ [odd15]⟩ := by rw [hm1]; exact at_new _ _ _
    have l1 : m1.length = m.length + 1 := by rw [hm1]; simp
    rw [← hm1]
    have hd0 : ¬ ((d : Int) + 1 = 0) := by omega
    have ofOdd : ∀ (N' : Nat) (m' : Mem), Bx k N' m' → N' < 100000000 → m'[m.length]? = some ⟨false, odd14 ++ [odd15]⟩ → ∃ y m'', run T wf (n + d + 3) 10 [.mr k, .mr m.length] m' = .ok (.d y) m'' ∧ y ∈ odd14 ++ [odd15] ∧ Bx k (N' + 1) m'' ∧ Up k m' m'' := fun N' m' hb hn ho =>
      sp_of wf (n + d + 1) k N' m' (.mr m.length) (.list (odd14 ++ [odd15])) (odd14 ++ [odd15]) rfl (fun e => by cases e; omega) (by show (m'[m.length]?).map _ = _; rw [ho]; rfl) (.inl rfl) hb (by omega) (by simp) (by simp)
    by_cases hat : atomB x = true
    · obtain ⟨y, m', h1, h2, h3, h4⟩ := ofOdd N m1 B1 (by omega) O1
      refine ⟨.d y, y, m'.take m.length, ?_, .d y, (odd_ft y h2).mono (by omega) (by omega), (h3.cut hk).mono (by omega), (G1.trans h4.gr).up⟩
      cases x <;> first | (cases hat; done) | simp [spC, h1, isi, hd0]
    · obtain ⟨E, xs, rfl, hxs, hlen, hel⟩ := ft_items hx (by simpa using hat)
      have hisi : (isi x .list || isi x .tuple) = true := by rcases hxs with rfl | rfl <;> rfl
      have hlx : lenD [x] = some (.d (.int xs.length)) := by rcases hxs with rfl | rfl <;> rfl
      have hli : listD [x] = some (.fr xs) := by rcases hxs with rfl | rfl <;> rfl
      by_cases h0 : xs = []
      · subst h0
        obtain ⟨y, m', h1, h2, h3, h4⟩ := ofOdd N m1 B1 (by omega) O1
        refine ⟨.d y, y, m'.take m.length, ?_, .d y, (odd_ft y h2).mono (by omega) (by omega), (h3.cut hk).mono (by omega), (G1.trans h4.gr).up⟩
        have hisi' : isi x .list = true ∨ isi x .tuple = true := by simpa using hisi
        rcases hxs with rfl | rfl <;> simp [spC, h1, isi, hd0]
      · have hpos : 0 < xs.length := List.length_pos_iff.mpr h0
        obtain ⟨way, m2, a1, a2, a3, a4, a5⟩ := sp_take wf (n + d + 2) k N m1 7 B1 (by omega) (by omega) (by omega)
        obtain ⟨r, m3, b1, b2, b3, b4, b5⟩ := sp_take wf (n + d + 2) k (N + 1) m2 xs.length a4 (by omega) (by omega) (by omega)
        obtain ⟨c, rfl⟩ : ∃ c : Nat, r = c := ⟨r.toNat, by omega⟩
        have hc : c < xs.length := by omega
        have l3 : m3.length = m.length + 1 := by rw [b5.1, a5.1, l1]
        obtain ⟨m4, hm4⟩ : ∃ z : Mem, z = m3 ++ [⟨false, xs⟩] := ⟨_, rfl⟩
        have B4 : Bx k (N + 2) m4 := by rw [hm4]; exact b4.app _
        have G4 : Gr k m m4 := by rw [hm4]; exact ((G1.trans a5.gr).trans b5.gr).trans (Gr.app _ _ _)
        have R4 : m4[m.length + 1]? = some ⟨false, xs⟩ := by rw [hm4, ← l3]; exact at_new _ _ _
        have O4 : m4[m.length]? = some ⟨false, odd14 ++ [odd15]⟩ := by
          rw [hm4, List.getElem?_append_left (by omega), b5.2 _ (by omega), a5.2 _ (by omega)]
          exact O1
        have hrd : rdR m4 (.mr (m.length + 1)) = .ok (.list xs) m4 := rdR_mr _ R4
        have hcond : (sem (run T wf (n + d + 3)) spC).t [some (.mr k), some (.d x), some (.d (.int ((d + 1 : Nat) : Int))), some (.mr m.length), none, none, none] m1 = .ok false m1 := by
          rcases hxs with rfl | rfl <;> simp [spC, isi, hd0, h0]
        have s1 : exS (run T wf (n + d + 3)) wf (.par [(5, false), (6, false)] [(.call 8 [(.var 0), (.cst (.int 7))]), (.call 8 [(.var 0), (.bi .len [(.var 1)])])]) [some (.mr k), some (.d x), some (.d (.int ((d + 1 : Nat) : Int))), some (.mr m.length), none, none, none] m1 = .ok (.next [some (.mr k), some (.d x), some (.d (.int ((d + 1 : Nat) : Int))), some (.mr m.length), none, some (.d (.int way)), some (.d (.int c))]) m3 := by
          simp [a1, b1, hlx]
        have s2 : exS (run T wf (n + d + 3)) wf (.set 4 true (.bi .list [(.var 1)])) [some (.mr k), some (.d x), some (.d (.int ((d + 1 : Nat) : Int))), some (.mr m.length), none, some (.d (.int way)), some (.d (.int c))] m3 = .ok (.next [some (.mr k), some (.d x), some (.d (.int ((d + 1 : Nat) : Int))), some (.mr m.length), some (.mr (m.length + 1)), some (.d (.int way)), some (.d (.int c))]) m4 := by
          simp [hli, hm4, l3]
        rw [M.exB_cons, M.x_iff, hcond, Res.bind_ok, if_neg (by simp), M.exB_nil, Res.bind_ok, nextF_next, spT, M.exB_cons, s1, Res.bind_ok, nextF_next, M.exB_cons, s2, Res.bind_ok, nextF_next]
        have fin : ∀ ys : List PyData, (∀ y ∈ ys, y ∈ xs ∨ Ft 5 2 y) → ys.length ≤ xs.length + 1 → Ft (L + 1) (E + 1) (.tuple ys) := fun ys h1 h2 => .tup (by omega) (ft_sub hel h1 hL.1 (by omega))
        have hU : Up k m (m4.take m.length) := G4.up
        have hBt : Bx k (N + 4 * (d + 1 + 1)) (m4.take m.length) := (B4.cut hk).mono (by omega)
        have eU : slUR (.list xs) (.int c) = fun m => .ok (.fr (xs.take c)) m := by
          funext m; simp [slc, cut_hi xs c (by omega)]
        have eU1 : slUR (.list xs) (.int (c + 1)) = fun m => .ok (.fr (xs.take (c + 1))) m := by
          funext m
          rw [show (c : Int) + 1 = ((c + 1 : Nat) : Int) by omega]
          simp only [slUR_int, slc, cut_hi xs (c + 1) (by omega), optR_some]
        have eL : slLR (.list xs) (.int c) = fun m => .ok (.fr (xs.drop c)) m := by
          funext m; simp [slc, cut_lo xs c (by omega)]
        have eL1 : slLR (.list xs) (.int (c + 1)) = fun m => .ok (.fr (xs.drop (c + 1))) m := by
          funext m
          rw [show (c : Int) + 1 = ((c + 1 : Nat) : Int) by omega]
          simp only [slLR_int, slc, cut_lo xs (c + 1) (by omega), optR_some]
        have tl : (xs.take c).length ≤ xs.length := by simp; omega
        have dl : (xs.drop c).length ≤ xs.length := by simp
        by_cases w0 : way = 0
        · subst w0
          refine ⟨.fr xs, .list xs, m4.take m.length, ?_, .fr xs, .list (by omega) (ft_sub hel (fun y hy => .inl hy) hL.1 (by omega)), hBt, hU⟩
          simp [hli]
        by_cases w1 : way = 1
        · subst w1
          refine ⟨.d (.tuple (xs.take c ++ xs.drop (c + 1))), _, m4.take m.length, ?_, .d _, fin _ (fun y hy => ?_) (by simp; omega), hBt, hU⟩
          · simp only [M.x_iff, M.exB_cons, M.exB_nil, M.v_cmp, M.t_cmp, M.v_var, getV_succ, getV_zero, optR_some, Res.bind_ok, M.v_cst, nf_d, rdR_d, M.cmp_eqI, M.boolR_eq, M.truR_bool, show ((1 : Int) == 0) = false from rfl, show ((2 : Int) == 0) = false from rfl, show ((2 : Int) == 1) = false from rfl, show ((3 : Int) == 0) = false from rfl, show ((3 : Int) == 1) = false from rfl, show ((3 : Int) == 2) = false from rfl, beq_self_eq_true, Bool.false_eq_true, if_false, if_true, M.x_ret, M.v_bi, M.cArgs_cons, M.cArgs_nil, M.v_op, M.v_slU, M.v_slL, nf_mr, hrd, nextF_next, eU, eL1, addI, nf_fr]
            rw [addL _ _ (by simp; omega)]
            simp
          · left
            rcases List.mem_append.mp hy with q | q
            · exact List.mem_of_mem_take q
            · exact List.mem_of_mem_drop q
        by_cases w2 : way = 2
        · subst w2
          refine ⟨.d (.tuple (xs.take (c + 1) ++ xs.drop c)), _, m4.take m.length, ?_, .d _, fin _ (fun y hy => ?_) (by simp; omega), hBt, hU⟩
          · simp only [M.x_iff, M.exB_cons, M.exB_nil, M.v_cmp, M.t_cmp, M.v_var, getV_succ, getV_zero, optR_some, Res.bind_ok, M.v_cst, nf_d, rdR_d, M.cmp_eqI, M.boolR_eq, M.truR_bool, show ((1 : Int) == 0) = false from rfl, show ((2 : Int) == 0) = false from rfl, show ((2 : Int) == 1) = false from rfl, show ((3 : Int) == 0) = false from rfl, show ((3 : Int) == 1) = false from rfl, show ((3 : Int) == 2) = false from rfl, beq_self_eq_true, Bool.false_eq_true, if_false, if_true, M.x_ret, M.v_bi, M.cArgs_cons, M.cArgs_nil, M.v_op, M.v_slU, M.v_slL, nf_mr, hrd, nextF_next, eU1, eL, addI, nf_fr]
            rw [addL _ _ (by simp; omega)]
            simp
          · left
            rcases List.mem_append.mp hy with q | q
            · exact List.mem_of_mem_take q
            · exact List.mem_of_mem_drop q
        by_cases w3 : way = 3
        · subst w3
          obtain ⟨y, m5, h1, h2, h3, h4⟩ := ofOdd (N + 2) m4 B4 (by omega) O4
          have R5 : m5[m.length + 1]? = some ⟨false, xs⟩ := (h4.2 _ (by omega)).trans R4
          have hrd5 : rdR m5 (.mr (m.length + 1)) = .ok (.list xs) m5 := rdR_mr _ R5
          refine ⟨.d (.tuple (xs.take c ++ [y] ++ xs.drop c)), _, m5.take m.length, ?_, .d _, fin _ (fun z hz => ?_) (by simp; omega), (h3.cut hk).mono (by omega), (G4.trans h4.gr).up⟩
          · simp only [M.x_iff, M.exB_cons, M.exB_nil, M.v_cmp, M.t_cmp, M.v_var, getV_succ, getV_zero, optR_some, Res.bind_ok, M.v_cst, nf_d, rdR_d, M.cmp_eqI, M.boolR_eq, M.truR_bool, show ((1 : Int) == 0) = false from rfl, show ((2 : Int) == 0) = false from rfl, show ((2 : Int) == 1) = false from rfl, show ((3 : Int) == 0) = false from rfl, show ((3 : Int) == 1) = false from rfl, show ((3 : Int) == 2) = false from rfl, beq_self_eq_true, Bool.false_eq_true, if_false, if_true, M.x_ret, M.v_bi, M.cArgs_cons, M.cArgs_nil, M.v_op, M.v_slU, M.v_slL, nf_mr, hrd, hrd5, nextF_next, eU, eL, addI, nf_fr, M.v_lst, M.cItems_cons, M.cItems_nil, M.v_call, h1, frz_d]
            rw [addL _ _ (by simp; omega)]
            simp only [optR_some, Res.bind_ok, nf_fr, rdR_d, hrd5, eL]
            rw [addL _ _ (by simp; omega)]
            simp
          · rcases List.mem_append.mp hz with q | q
            · rcases List.mem_append.mp q with q | q
              · exact .inl (List.mem_of_mem_take q)
              · rw [List.mem_singleton.mp q]; exact .inr (odd_ft y h2)
            · exact .inl (List.mem_of_mem_drop q)
        by_cases w4 : way = 4
        · subst w4
          refine ⟨.d (.tuple xs.reverse), _, m4.take m.length, ?_, .d _, fin _ (fun y hy => .inl (List.mem_reverse.mp hy)) (by simp), hBt, hU⟩
          simp [hrd, revd]
        · obtain ⟨z, hz1, hz2, hz3⟩ := atI_in (xs := xs) (r := (c : Int)) b2 (by omega)
          obtain ⟨v, y, m5, h1, h2, h3, h4, h5⟩ := ih n (N + 2) E m4 z (hel z hz3) (by omega) B4 (by omega)
          have R5 : m5[m.length + 1]? = some ⟨false, xs⟩ := (h5.2 _ (by omega)).trans R4
          have l5 : m.length + 1 < m5.length := by rw [h5.1, hm4]; simp; omega
          have hix : idx (.list xs) (.int c) = some z := hz1
          refine ⟨.d (.tuple (xs.set c y)), _, (m5.set (m.length + 1) ⟨false, xs.set c y⟩).take m.length, ?_, .d _, .tup (by simp; omega) (fun u hu => ?_), ((h4.put _ (by omega)).cut hk).mono (by omega), ((G4.trans h5.gr).put _ (by omega)).up⟩
          · have hput : upCell [some (.mr k), some (.d x), some (.d (.int ((d + 1 : Nat) : Int))), some (.mr m.length), some (.mr (m.length + 1)), some (.d (.int way)), some (.d (.int c))] 4 (putD (.int c) y) m5 = .ok (.next [some (.mr k), some (.d x), some (.d (.int ((d + 1 : Nat) : Int))), some (.mr m.length), some (.mr (m.length + 1)), some (.d (.int way)), some (.d (.int c))]) (m5.set (m.length + 1) ⟨false, xs.set c y⟩) :=
              upCell_mr _ _ (j := m.length + 1) (xs := xs) (by simp) R5 (by
                show (L2.ixN xs.length c).map _ = _
                unfold L2.ixN
                simp [show (c : Int) < xs.length by omega])
            have hlk : lookAll (m5.set (m.length + 1) ⟨false, xs.set c y⟩) [.mr (m.length + 1)] = some [.list (xs.set c y)] := lookAll_mr _ (List.getElem?_set_self l5) _
            have hd1 : ((d + 1 : Nat) : Int) - 1 = d := by omega
            simp only [M.x_iff, M.exB_cons, M.exB_nil, M.v_cmp, M.t_cmp, M.v_var, getV_succ, getV_zero, optR_some, Res.bind_ok, M.v_cst, nf_d, rdR_d, M.cmp_eqI, M.boolR_eq, M.truR_bool, beq_eq_false_iff_ne.mpr w0, beq_eq_false_iff_ne.mpr w1, beq_eq_false_iff_ne.mpr w2, beq_eq_false_iff_ne.mpr w3, beq_eq_false_iff_ne.mpr w4, Bool.false_eq_true, if_false, nextF_next, M.x_put, M.v_call, M.cArgs_cons, M.cArgs_nil, M.v_idx, nf_mr, hrd, hix, M.v_op, subI, hd1, h1, h2.fz]
            rw [onCell_mr (j := m.length + 1) (h := by simp)]
            simp only [hput, Res.bind_ok, nextF_next, M.x_ret, M.v_bi, M.cArgs_cons, M.cArgs_nil, M.v_var, getV_succ, getV_zero, optR_some, nf_mr, hlk, M.bi_tuple, M.tupleD_list, M.exB_nil]
            simp [hlk]
          · rcases List.mem_or_eq_of_mem_set hu with q | q
            · exact (hel u q).mono (Nat.le_succ _) (Nat.le_refl _)
            · rw [q]; exact h3
end Ra.K0


set_option Elab.async false
set_option linter.all false
set_option maxRecDepth 100000
set_option maxHeartbeats 3200000
namespace Ra.K0
open PySem M _root_.K0
theorem cmp_eqB (a b : Bool) : cmp .eq (.bool a) (.bool b) = some (a == b) := by
  have hd : deep (.bool a) (.bool b) = true := by simp [deep, PyData.depth]
  simp [cmp, hd, PyData.eqv]
theorem same_bool (wf n : Nat) (b : Bool) (m : Mem) : run T wf (n + 1) 12 [.d (.bool b), .d (.bool b)] m = .ok (.d (.bool true)) m := by
  rw [run_succ d__law_same.fnT rfl rfl (by decide)]
  simp [d__law_same, Df.fnT, b__law_same, isi, cmp_eqB, isNone]
theorem zip_bools : ∀ bs : List Bool, zipD (bs.map PyData.bool) (bs.map PyData.bool) = bs.map fun b => .tuple [.bool b, .bool b]
  | [] => rfl
  | b :: bs => by simp [zipD, zip_bools bs]
theorem sp_same (wf n i j : Nat) (bs : List Bool) (m : Mem) (hi : m[i]? = some ⟨false, bs.map PyData.bool⟩) (hj : m[j]? = some ⟨false, bs.map PyData.bool⟩) : run T wf (n + 2) 12 [.mr i, .mr j] m = .ok (.d (.bool true)) m := by
  rw [run_succ d__law_same.fnT rfl rfl (by decide)]
  have ri : rdR m (.mr i) = .ok (.list (bs.map PyData.bool)) m := rdR_mr _ hi
  have rj : rdR m (.mr j) = .ok (.list (bs.map PyData.bool)) m := rdR_mr _ hj
  have li : lookAll m [.mr i] = some [.list (bs.map PyData.bool)] := lookAll_mr _ hi _
  have lj : lookAll m [.mr j] = some [.list (bs.map PyData.bool)] := lookAll_mr _ hj _
  have lij : lookAll m [.mr i, .mr j] = some [.list (bs.map PyData.bool), .list (bs.map PyData.bool)] := by rw [lookAll_mr _ hi, lj]; rfl
  have hs : same [i, j] m m = true := same_of fun k hk => by
    simp only [List.mem_cons, List.not_mem_nil, or_false] at hk
    rcases hk with rfl | rfl
    · exact ⟨_, _, hi, hi, rfl⟩
    · exact ⟨_, _, hj, hj, rfl⟩
  simp [d__law_same, Df.fnT, b__law_same, ri, rj, li, lj, lij, isi, cmp_neB, zip_bools]
  rw [lcLoop_map (fun _ => .bool true) hs]
  · have := allD_map (fun _ : PyData => true) (bs.map fun b => PyData.tuple [.bool b, .bool b])
    simp only [List.map_map] at this
    simp [this]
    have e : allB (bs.map fun b => PyData.tuple [.bool b, .bool b]) (fun _ => true) = true := allB_of fun _ _ => rfl
    simp [e]
  · intro x hx
    obtain ⟨b, _, rfl⟩ := List.mem_map.mp hx
    simp [same_bool]
theorem ft_enc {s : Stp} (h : OkS s) : Ft 24 3 (enc s) := by
  refine .tup (by simp) fun x hx => ?_
  simp only [List.mem_cons, List.not_mem_nil, or_false] at hx
  rcases hx with rfl | rfl | rfl | rfl | rfl
  · exact .atom rfl
  · exact .atom rfl
  · refine .tup (D := 1) (by rw [List.length_map]; have := h.few; omega) fun x hx => ?_
    obtain ⟨r, _, rfl⟩ := List.mem_map.mp hx
    exact .atom rfl
  · exact .atom rfl
  · refine .tup (by rw [List.length_map]; have := h.one; omega) fun x hx => ?_
    obtain ⟨p, _, rfl⟩ := List.mem_map.mp hx
    refine .tup (D := 0) (by simp) fun y hy => ?_
    simp only [List.mem_cons, List.not_mem_nil, or_false] at hy
    rcases hy with rfl | rfl <;> exact .atom rfl
theorem ft_form {ss : List Stp} (h : ∀ s ∈ ss, OkS s) (hl : ss.length ≤ 6) : Ft 24 4 (.tuple (ss.map enc)) := .tup (by rw [List.length_map]; omega) fun x hx => by
  obtain ⟨s, hs, rfl⟩ := List.mem_map.mp hx
  exact ft_enc (h s hs)
theorem ft_prs {ps : List (Str × Str)} (hl : ps.length ≤ 24) : Ft 24 2 (.tuple (ps.map encPr)) := .tup (by rw [List.length_map]; omega) fun x hx => by
  obtain ⟨p, _, rfl⟩ := List.mem_map.mp hx
  refine .tup (D := 0) (by simp) fun y hy => ?_
  simp only [List.mem_cons, List.not_mem_nil, or_false] at hy
  rcases hy with rfl | rfl <;> exact .atom rfl
/-- spoilt, or left as it is -/
theorem sp_maybe (wf n k N q : Nat) (m : Mem) (x : PyData) (env : Env) (i : Nat) (h0 : getV env 0 = some (.mr k)) (hi : getV env i = some (.d x)) (hq : q ≤ 4) (hx : Ft 24 10 x) (hB : Bx k N m) (hN : N < 1000000) :
    ∃ (y : PyData) (v : Val) (m' : Mem), (sem (run T wf (n + q + 3)) (.ite (.cmp .gt (.call 8 [(.var 0), (.cst (.int 3))]) (.cst (.int 0))) (.call 23 [(.var 0), (.var i), (.cst (.int q))]) (.var i))).v env m = .ok v m' ∧ v.nf = .d y ∧ Ft 25 10 y ∧ Bx k (N + 30) m' ∧ Up k m m' := by
  obtain ⟨r, m1, a1, a2, a3, a4, a5⟩ := sp_take wf (n + q + 2) k N m 3 hB (by omega) (by omega) (by omega)
  by_cases hr : 0 < r
  · obtain ⟨v, y, m', b1, b2, b3, b4, b5⟩ := sp_spoilt wf k 24 ⟨by omega, by omega⟩ q n (N + 1) 10 m1 x hx (by omega) a4 (by omega)
    refine ⟨y, v, m', ?_, b2.nf, b3, b4.mono (by omega), a5.trans b5⟩
    simp [h0, hi, a1, hr, b1]
  · refine ⟨x, .d x, m1, ?_, rfl, hx.mono (by omega) (by omega), a4.mono (by omega), a5⟩
    simp [h0, hi, a1, hr]
end Ra.K0


set_option Elab.async false
set_option linter.all false
set_option maxRecDepth 100000
set_option maxHeartbeats 3200000
namespace Ra.K0
open PySem M _root_.K0
def rt1 : S := .set 2 false (.call 13 [(.var 0), (.cst (.int 6)), (.tup [(.cst (.str "fa")), (.cst (.str "fb"))])])
def rt2 : S := .set 3 false (.call 15 [(.var 0), (.var 2), (.tup []), (.lst [(.cst (.str "va")), (.cst (.str "vb"))])])
def rt3 : S := .set 4 false (.ite (.cmp .gt (.call 8 [(.var 0), (.cst (.int 3))]) (.cst (.int 0))) (.call 23 [(.var 0), (.var 2), (.cst (.int 4))]) (.var 2))
def rt4 : S := .set 5 false (.ite (.cmp .gt (.call 8 [(.var 0), (.cst (.int 3))]) (.cst (.int 0))) (.call 23 [(.var 0), (.var 3), (.cst (.int 3))]) (.var 3))
def rt5 : S := .set 6 false (.call 23 [(.var 0), (.call 10 [(.var 0), (.var 2)]), (.cst (.int 3))])
def rt6 : S := .set 7 false (.call 23 [(.var 0), (.tup [(.tup [(.cst (.str "fa")), (.cst (.int 1))]), (.tup [(.cst (.str "fb")), (.cst (.int 0))])]), (.cst (.int 2))])
def rt7 : S := .set 8 true (.lst [(.call 5 [(.var 4)]), (.call 5 [(.var 2)]), (.call 6 [(.var 5)]), (.call 6 [(.var 3)]), (.call 4 [(.var 6)])])
def rt8 : S := .app 8 (.call 3 [(.var 7)])
def rt9 : S := .set 9 true (.lst [(.call 21 [(.var 4)]), (.cst (.bool true)), (.call 22 [(.var 5)]), (.cst (.bool true)), (.call 20 [(.var 6)])])
def rt10 : S := .app 9 (.call 19 [(.var 7)])
def rt11 : S := .iff (.not (.call 12 [(.var 8), (.var 9)])) [(.ret (.cst (.bool false)))] []
theorem right_body : b__law_right = [(.for (.nm 1) .range [(.cst (.int 6))] [rt1, rt2, rt3, rt4, rt5, rt6, rt7, rt8, rt9, rt10, rt11]), (.ret (.cst (.bool true)))] := rfl
abbrev pairOn : PyData := .tuple [.tuple [.str "fa", .int 1], .tuple [.str "fb", .int 0]]
theorem ft_on : Ft 24 10 pairOn := (fit_ok (L := 24) (D := 2) (by decide +kernel)).mono (Nat.le_refl _) (by omega)
theorem rt_body (wf n k N : Nat) (hw : 6 < wf) (m : Mem) (e1 e2' e3' e4' e5' e6' e7' e8' e9' : Option Val) (hB : Bx k N m) (hN : N < 100000) :
    ∃ (e2 e3 e4 e5 e6 e7 e8 e9 : Option Val) (m' : Mem), exB (run T wf (n + 7)) wf [rt1, rt2, rt3, rt4, rt5, rt6, rt7, rt8, rt9, rt10, rt11] [some (.mr k), e1, e2', e3', e4', e5', e6', e7', e8', e9'] m = .ok (.next [some (.mr k), e1, e2, e3, e4, e5, e6, e7, e8, e9]) m' ∧ Bx k (N + 400) m' ∧ Gr k m m' := by
  have hk := hB.lt
  obtain ⟨ss, m1, a1, a2, a3, a4, a5, a6, a7⟩ := sp_form wf (n + 4) k N m hB (by omega)
  obtain ⟨ps, m2, b1, b2, b3, b4, b5⟩ := sp_stock wf (n + 4) k (N + 200) m1 ss hw a2 a4 a6 (by omega)
  have s1 : exS (run T wf (n + 7)) wf rt1 [some (.mr k), e1, e2', e3', e4', e5', e6', e7', e8', e9'] m = .ok (.next [some (.mr k), e1, some (.d (.tuple (ss.map enc))), e3', e4', e5', e6', e7', e8', e9']) m1 := by
    simp [rt1, a1]
  have s2 : exS (run T wf (n + 7)) wf rt2 [some (.mr k), e1, some (.d (.tuple (ss.map enc))), e3', e4', e5', e6', e7', e8', e9'] m1 = .ok (.next [some (.mr k), e1, some (.d (.tuple (ss.map enc))), some (.d (.tuple (ps.map encPr))), e4', e5', e6', e7', e8', e9']) m2 := by
    simp [rt2, b1]
  have ftf : Ft 24 10 (.tuple (ss.map enc)) := (ft_form a2 a4).mono (Nat.le_refl _) (by omega)
  have fts : Ft 24 10 (.tuple (ps.map encPr)) := (ft_prs b2).mono (Nat.le_refl _) (by omega)
  obtain ⟨y4, v4, m3, c1, c2, c3, c4, c5⟩ := sp_maybe wf n k (N + 230) 4 m2 (.tuple (ss.map enc)) [some (.mr k), e1, some (.d (.tuple (ss.map enc))), some (.d (.tuple (ps.map encPr))), e4', e5', e6', e7', e8', e9'] 2 (by simp) (by simp) (by omega) ftf b4 (by omega)
  have s3 : exS (run T wf (n + 7)) wf rt3 [some (.mr k), e1, some (.d (.tuple (ss.map enc))), some (.d (.tuple (ps.map encPr))), e4', e5', e6', e7', e8', e9'] m2 = .ok (.next [some (.mr k), e1, some (.d (.tuple (ss.map enc))), some (.d (.tuple (ps.map encPr))), some (.d y4), e5', e6', e7', e8', e9']) m3 := by
    rw [rt3, M.x_set]
    have c1' := c1
    rw [show ((4 : Nat) : Int) = 4 from rfl] at c1'
    rw [c1']
    simp [c2]
  obtain ⟨y5, v5, m4, d1, d2, d3, d4, d5⟩ := sp_maybe wf (n + 1) k (N + 260) 3 m3 (.tuple (ps.map encPr)) [some (.mr k), e1, some (.d (.tuple (ss.map enc))), some (.d (.tuple (ps.map encPr))), some (.d y4), e5', e6', e7', e8', e9'] 3 (by simp) (by simp) (by omega) fts c4 (by omega)
  have s4 : exS (run T wf (n + 7)) wf rt4 [some (.mr k), e1, some (.d (.tuple (ss.map enc))), some (.d (.tuple (ps.map encPr))), some (.d y4), e5', e6', e7', e8', e9'] m3 = .ok (.next [some (.mr k), e1, some (.d (.tuple (ss.map enc))), some (.d (.tuple (ps.map encPr))), some (.d y4), some (.d y5), e6', e7', e8', e9']) m4 := by
    rw [rt4, M.x_set]
    have d1' := d1
    rw [show ((3 : Nat) : Int) = 3 from rfl] at d1'
    rw [show n + 7 = n + 1 + 3 + 3 from rfl, d1']
    simp [d2]
  obtain ⟨z, m5, f1, f2, f3, f4⟩ := sp_of wf (n + 5) k (N + 290) m4 (.d (.tuple (ss.map enc))) (.tuple (ss.map enc)) (ss.map enc) rfl (by simp) rfl (.inr rfl) d4 (by omega) (by rw [List.length_map]; exact List.length_pos_iff.mpr a3) (by rw [List.length_map]; omega)
  have ftz : Ft 24 10 z := by
    obtain ⟨s, hs, rfl⟩ := List.mem_map.mp f2
    exact (ft_enc (a2 s hs)).mono (Nat.le_refl _) (by omega)
  obtain ⟨v6, y6, m6, g1, g2, g3, g4, g5⟩ := sp_spoilt wf k 24 ⟨by omega, by omega⟩ 3 (n + 1) (N + 291) 10 m5 z ftz (by omega) f3 (by omega)
  have g1' : run T wf (n + 7) 23 [.mr k, .d z, .d (.int 3)] m5 = .ok v6 m6 := g1
  have s5 : exS (run T wf (n + 7)) wf rt5 [some (.mr k), e1, some (.d (.tuple (ss.map enc))), some (.d (.tuple (ps.map encPr))), some (.d y4), some (.d y5), e6', e7', e8', e9'] m4 = .ok (.next [some (.mr k), e1, some (.d (.tuple (ss.map enc))), some (.d (.tuple (ps.map encPr))), some (.d y4), some (.d y5), some (.d y6), e7', e8', e9']) m6 := by
    simp [rt5, f1, g1', g2.nf]
  obtain ⟨v7, y7, m7, h1, h2, h3, h4, h5⟩ := sp_spoilt wf k 24 ⟨by omega, by omega⟩ 2 (n + 2) (N + 310) 10 m6 pairOn ft_on (by omega) (g4.mono (by omega)) (by omega)
  have h1' : run T wf (n + 7) 23 [.mr k, .d pairOn, .d (.int 2)] m6 = .ok v7 m7 := h1
  have s6 : exS (run T wf (n + 7)) wf rt6 [some (.mr k), e1, some (.d (.tuple (ss.map enc))), some (.d (.tuple (ps.map encPr))), some (.d y4), some (.d y5), some (.d y6), e7', e8', e9'] m6 = .ok (.next [some (.mr k), e1, some (.d (.tuple (ss.map enc))), some (.d (.tuple (ps.map encPr))), some (.d y4), some (.d y5), some (.d y6), some (.d y7), e8', e9']) m7 := by
    simp [rt6, h1', h2.nf]
  have p5 : ∀ x m, run T wf (n + 7) 5 [.d x] m = .ok (.d (.bool (planB x))) m := fun x m => sp_plan wf (n + 3) x m
  have p6 : ∀ x m, run T wf (n + 7) 6 [.d x] m = .ok (.d (.bool (countB x))) m := fun x m => sp_counts wf (n + 5) x m
  have p4 : ∀ x m, run T wf (n + 7) 4 [.d x] m = .ok (.d (.bool (stepB x))) m := fun x m => sp_step wf (n + 4) x m
  have p3 : ∀ x m, run T wf (n + 7) 3 [.d x] m = .ok (.d (.bool (condB x))) m := fun x m => sp_cond wf (n + 5) x m
  have n4 := c3.isNice (by omega) (by omega)
  have n5 := d3.isNice (by omega) (by omega)
  have n6 := g3.isNice (by omega) (by omega)
  have n7 := h3.isNice (by omega) (by omega)
  have q4 : ∀ m, run T wf (n + 7) 21 [.d y4] m = .ok (.d (.bool (planB y4))) m := fun m => sp_form0 wf (n + 3) y4 n4 m
  have q5 : ∀ m, run T wf (n + 7) 22 [.d y5] m = .ok (.d (.bool (countB y5))) m := fun m => sp_stock0 wf (n + 5) y5 n5 m
  have q6 : ∀ m, run T wf (n + 7) 20 [.d y6] m = .ok (.d (.bool (stepB y6))) m := fun m => sp_bit wf (n + 4) y6 n6 m
  have q7 : ∀ m, run T wf (n + 7) 19 [.d y7] m = .ok (.d (.bool (condB y7))) m := fun m => sp_on wf (n + 5) y7 n7 m
  have hpl : planB (.tuple (ss.map enc)) = true := a5
  have hst : countB (.tuple (ps.map encPr)) = true := b3
  obtain ⟨bs, hbs⟩ : ∃ z : List Bool, z = [planB y4, true, countB y5, true, stepB y6] := ⟨_, rfl⟩
  have s7 : exS (run T wf (n + 7)) wf rt7 [some (.mr k), e1, some (.d (.tuple (ss.map enc))), some (.d (.tuple (ps.map encPr))), some (.d y4), some (.d y5), some (.d y6), some (.d y7), e8', e9'] m7 = .ok (.next [some (.mr k), e1, some (.d (.tuple (ss.map enc))), some (.d (.tuple (ps.map encPr))), some (.d y4), some (.d y5), some (.d y6), some (.d y7), some (.mr m7.length), e9']) (m7 ++ [⟨false, bs.map PyData.bool⟩]) := by
    simp [rt7, p5, p6, p4, hpl, hst, hbs]
  have s8 := appCell (call := run T wf (n + 7)) (wf := wf) (i := 8) (j := m7.length) (e := .call 3 [(.var 7)]) (env := [some (.mr k), e1, some (.d (.tuple (ss.map enc))), some (.d (.tuple (ps.map encPr))), some (.d y4), some (.d y5), some (.d y6), some (.d y7), some (.mr m7.length), e9']) (m := m7 ++ [⟨false, bs.map PyData.bool⟩]) (m1 := m7 ++ [⟨false, bs.map PyData.bool⟩]) (x := .bool (condB y7)) (xs := bs.map PyData.bool) (by simp) (by simp [p3]) (at_new _ _ _) (by rw [hbs]; simp)
  rw [set_new] at s8
  obtain ⟨m8, hm8⟩ : ∃ z : Mem, z = m7 ++ [⟨false, bs.map PyData.bool ++ [.bool (condB y7)]⟩] := ⟨_, rfl⟩
  rw [← hm8] at s8
  have l8 : m8.length = m7.length + 1 := by rw [hm8]; simp
  have s9 : exS (run T wf (n + 7)) wf rt9 [some (.mr k), e1, some (.d (.tuple (ss.map enc))), some (.d (.tuple (ps.map encPr))), some (.d y4), some (.d y5), some (.d y6), some (.d y7), some (.mr m7.length), e9'] m8 = .ok (.next [some (.mr k), e1, some (.d (.tuple (ss.map enc))), some (.d (.tuple (ps.map encPr))), some (.d y4), some (.d y5), some (.d y6), some (.d y7), some (.mr m7.length), some (.mr m8.length)]) (m8 ++ [⟨false, bs.map PyData.bool⟩]) := by
    simp [rt9, q4, q5, q6, hbs]
  have s10 := appCell (call := run T wf (n + 7)) (wf := wf) (i := 9) (j := m8.length) (e := .call 19 [(.var 7)]) (env := [some (.mr k), e1, some (.d (.tuple (ss.map enc))), some (.d (.tuple (ps.map encPr))), some (.d y4), some (.d y5), some (.d y6), some (.d y7), some (.mr m7.length), some (.mr m8.length)]) (m := m8 ++ [⟨false, bs.map PyData.bool⟩]) (m1 := m8 ++ [⟨false, bs.map PyData.bool⟩]) (x := .bool (condB y7)) (xs := bs.map PyData.bool) (by simp) (by simp [q7]) (at_new _ _ _) (by rw [hbs]; simp)
  rw [set_new] at s10
  obtain ⟨m9, hm9⟩ : ∃ z : Mem, z = m8 ++ [⟨false, bs.map PyData.bool ++ [.bool (condB y7)]⟩] := ⟨_, rfl⟩
  rw [← hm9] at s10
  have e8 : m9[m7.length]? = some ⟨false, (bs ++ [condB y7]).map PyData.bool⟩ := by
    rw [hm9, List.getElem?_append_left (by omega), hm8, at_new, List.map_append]; rfl
  have e9 : m9[m8.length]? = some ⟨false, (bs ++ [condB y7]).map PyData.bool⟩ := by
    rw [hm9, at_new, List.map_append]; rfl
  have hsame := sp_same wf (n + 5) m7.length m8.length (bs ++ [condB y7]) m9 e8 e9
  have s11 : exS (run T wf (n + 7)) wf rt11 [some (.mr k), e1, some (.d (.tuple (ss.map enc))), some (.d (.tuple (ps.map encPr))), some (.d y4), some (.d y5), some (.d y6), some (.d y7), some (.mr m7.length), some (.mr m8.length)] m9 = .ok (.next [some (.mr k), e1, some (.d (.tuple (ss.map enc))), some (.d (.tuple (ps.map encPr))), some (.d y4), some (.d y5), some (.d y6), some (.d y7), some (.mr m7.length), some (.mr m8.length)]) m9 := by
    simp [rt11, hsame]
  have U7 : Up k m m7 := (((((a7.trans b5).trans c5).trans d5).trans f4).trans g5).trans h5
  refine ⟨some (.d (.tuple (ss.map enc))), some (.d (.tuple (ps.map encPr))), some (.d y4), some (.d y5), some (.d y6), some (.d y7), some (.mr m7.length), some (.mr m8.length), m9, ?_, ?_, ?_⟩
  · rw [exB_cons, s1, Res.bind_ok, nextF_next, exB_cons, s2, Res.bind_ok, nextF_next, exB_cons, s3, Res.bind_ok, nextF_next, exB_cons, s4, Res.bind_ok, nextF_next, exB_cons, s5, Res.bind_ok, nextF_next, exB_cons, s6, Res.bind_ok, nextF_next, exB_cons, s7, Res.bind_ok, nextF_next, exB_cons, rt8, s8, Res.bind_ok, nextF_next, exB_cons, s9, Res.bind_ok, nextF_next, exB_cons, rt10, s10, Res.bind_ok, nextF_next, exB_cons, s11, Res.bind_ok, nextF_next, exB_nil]
  · rw [hm9, hm8]
    exact ((h4.app _).app _).mono (by omega)
  · have : Gr k m m8 := by rw [hm8]; exact U7.gr.trans (Gr.app _ _ _)
    rw [hm9]
    exact this.trans (Gr.app _ _ _)
theorem sp_right (wf n k N : Nat) (hw : 6 < wf) (m : Mem) (hB : Bx k N m) (hN : N < 1000) : ∃ m', run T wf (n + 8) 26 [.mr k] m = .ok (.d (.bool true)) m' ∧ Up k m m' := by
  rw [run_succ d__law_right.fnT rfl rfl (by decide)]
  obtain ⟨env', m', h1, _, _, _, _, _, _, _, _, _, rfl, h2, h3⟩ := forLoop_inv (t := .nm 1) (body := exB (run T wf (n + 7)) wf [rt1, rt2, rt3, rt4, rt5, rt6, rt7, rt8, rt9, rt10, rt11]) (gs := [])
    (fun i env m' => ∃ e1 e2 e3 e4 e5 e6 e7 e8 e9, env = [some (.mr k), e1, e2, e3, e4, e5, e6, e7, e8, e9] ∧ Bx k (N + 400 * i) m' ∧ Gr k m m') (xs := rangeD 0 6) 0 (env := [some (.mr k), none, none, none, none, none, none, none, none, none]) (m := m) (by
      rintro i x hx env m' ⟨e1, e2, e3, e4, e5, e6, e7, e8, e9, rfl, a, b⟩
      obtain ⟨rfl, hi⟩ := rangeD_at 6 0 i x hx
      rw [Nat.zero_add] at a ⊢
      obtain ⟨f2, f3, f4, f5, f6, f7, f8, f9, m'', q1, q2, q3⟩ := rt_body wf n k (N + 400 * i) hw m' (some (.d (.int (0 + (i : Int))))) e2 e3 e4 e5 e6 e7 e8 e9 a (by omega)
      exact ⟨[some (.mr k), some (.d (.int (0 + (i : Int)))), e2, e3, e4, e5, e6, e7, e8, e9], _, m'', by simp, q1, rfl, _, f2, f3, f4, f5, f6, f7, f8, f9, rfl, q2, b.trans q3⟩)
    ⟨none, none, none, none, none, none, none, none, none, rfl, hB, Gr.refl _ _⟩
  refine ⟨m'.take m.length, ?_, h3.up⟩
  rw [show d__law_right.fnT.body = b__law_right from rfl, right_body]
  have hwk : walk .range [.int 6] = some (rangeD 0 6) := rfl
  simp [d__law_right, Df.fnT, hwk, h1]
end Ra.K0


set_option Elab.async false
set_option linter.all false
set_option maxRecDepth 100000
set_option maxHeartbeats 3200000
namespace Ra.K0
open PySem M _root_.K0
theorem enumD_at : ∀ (xs : List PyData) (s i : Nat) (x : PyData), (enumD s xs)[i]? = some x → ∃ y, xs[i]? = some y ∧ x = .tuple [.int ((s + i : Nat) : Int), y]
  | [], s, i, x, h => by simp [enumD] at h
  | y :: xs, s, 0, x, h => by
    simp [enumD] at h
    exact ⟨y, rfl, by rw [← h]; simp⟩
  | y :: xs, s, i + 1, x, h => by
    obtain ⟨z, h1, h2⟩ := enumD_at xs (s + 1) i x (by simpa [enumD] using h)
    exact ⟨z, by simpa using h1, by rw [h2, show s + 1 + i = s + (i + 1) by omega]⟩
theorem idx_int {cs : List Int} {c : Nat} (h : c < cs.length) : idx (.list (cs.map PyData.int)) (.int c) = some (.int cs[c]) := by
  show L2.atI _ _ = _
  unfold L2.atI L2.ixN
  simp [show (c : Int) < cs.length by omega, List.getElem?_eq_getElem h]
theorem sp_box (wf n k : Nat) (cs : List Int) (m : Mem) (hk : k < cs.length) (hc : cs.length ≤ 3) : ∃ a b : Int, run T wf (n + 1) 7 [.d (.list (cs.map PyData.int)), .d (.int k)] m = .ok (.fr [.int a, .int b, .int 0]) m ∧ 0 ≤ a ∧ 0 ≤ b ∧ b < 4611686018427387904 := by
  rw [run_succ d__law_box.fnT rfl rfl (by decide)]
  have hlt : (k : Int) < cs.length := by omega
  obtain ⟨g, hg⟩ : ∃ g : Int, cs[k] = g := ⟨_, rfl⟩
  have hp : bop .pow (.int 10) (.int 18) = some (.d (.int 1000000000000000000)) := by rfl
  have hm : ∀ (x : Int) (b : Bool), bop .mul (.int x) (.int (if b then 1 else 0)) = some (.d (.int (x * if b then 1 else 0))) := fun x b => mulI (.inr (by cases b <;> decide))
  have hmod : bop .mod (.int g) (.int 2305843009213693951) = some (.d (.int (g.fmod 2305843009213693951))) := modI (by decide)
  have hmk : bop .mul (.int 39373) (.int k) = some (.d (.int (39373 * k))) := mulI (.inl (by decide))
  have hf := fm (i := g) (j := 2305843009213693951) (by decide)
  refine ⟨(if g < 0 then -g else g) * (if decide (1000000000000000000 ≤ (if g < 0 then -g else g)) then 1 else 0), g.fmod 2305843009213693951 + 39373 * k + 831, ?_, ?_, by omega, by omega⟩
  · simp only [d__law_box, Df.fnT, b__law_box]
    simp only [List.length_cons, List.length_nil, List.map_cons, List.map_nil, M.exB_cons, M.x_set, M.v_ite, M.t_cmp, M.v_cmp, M.v_var, getV_succ, getV_zero, List.cons_append, List.nil_append, optR_some, Res.bind_ok, M.v_bi, M.cArgs_cons, M.cArgs_nil, nf_d, lookAll_d, lookAll_nil, Option.map_some, M.bi_len, M.len_list, List.length_map, rdR_d, M.cmp_ltI, hlt, decide_true, M.boolR_eq, M.truR_bool, if_true, M.v_idx, idx_int hk, hg, stored_f]
    simp [hp, hm, hmod, hmk]
    have e := hm (if g < 0 then -g else g) (decide (1000000000000000000 ≤ (if g < 0 then -g else g)))
    simp only [decide_eq_true_eq] at e
    simp [e]
  · refine Int.mul_nonneg (by split <;> omega) (by split <;> omega)
theorem cut3 {α : Type} (xs : List α) : cut xs none (some 3) = xs.take 3 := by
  unfold cut
  rw [show (3 : Int) = ((3 : Nat) : Int) from rfl, HT.sIx_nat, HT.sIx_none, Nat.sub_zero, List.drop_zero]
  rcases Nat.le_total 3 xs.length with h | h
  · rw [Nat.min_eq_left h]
  · rw [Nat.min_eq_right h, List.take_of_length_le (Nat.le_refl _), List.take_of_length_le h]
theorem cutY {α : Type} (xs : List α) : (cut xs (some 3) (some 63) ≠ [] → 3 ≤ xs.length) ∧ (∀ y ∈ cut xs (some 3) (some 63), y ∈ xs) ∧ (cut xs (some 3) (some 63)).length ≤ 63 := by
  unfold cut
  rw [show (3 : Int) = ((3 : Nat) : Int) from rfl, show (63 : Int) = ((63 : Nat) : Int) from rfl, HT.sIx_nat, HT.sIx_nat]
  refine ⟨fun h => ?_, fun y hy => List.mem_of_mem_drop (List.mem_of_mem_take hy), by simp; omega⟩
  rcases Nat.lt_or_ge xs.length 3 with q | q
  · exfalso
    apply h
    rw [List.drop_of_length_le (by omega)]
    simp
  · exact q
def clB : List S := [(.set 5 false (.op .mod (.bi .int [(.var 3)]) (.var 1))), (.put 2 (.var 5) (.op .add (.idx (.var 2) (.var 5)) (.op .mul (.var 4) (.op .add (.var 3) (.cst (.int 2))))))]
theorem cl_step (wf n : Nat) (sc : PyData) (cs : List Int) (m : Mem) (i : Nat) (hi : i < 63) (g : Int) (hc : cs.length = 3) (e5 : Option Val) : ∃ (e5' : Option Val) (cs' : List Int), exB (run T wf n) wf clB [some (.d sc), some (.d (.int 3)), some (.mr m.length), some (.d (.int i)), some (.d (.int g)), e5] (m ++ [⟨false, cs.map PyData.int⟩]) =
    .ok (.next [some (.d sc), some (.d (.int 3)), some (.mr m.length), some (.d (.int i)), some (.d (.int g)), e5']) (m ++ [⟨false, cs'.map PyData.int⟩]) ∧ cs'.length = 3 := by
  have hf := fm (i := (i : Int)) (j := 3) (by decide)
  obtain ⟨r, hr⟩ : ∃ r : Nat, (i : Int).fmod 3 = r := ⟨((i : Int).fmod 3).toNat, by omega⟩
  have hr3 : r < cs.length := by omega
  have hmod : bop .mod (.int i) (.int 3) = some (.d (.int r)) := by rw [modI (by decide), hr]
  have hmul : bop .mul (.int g) (.int ((i : Int) + 2)) = some (.d (.int (g * ((i : Int) + 2)))) := mulI (.inr (sm (by omega) (by omega)))
  have hrd : rdR (m ++ [⟨false, cs.map PyData.int⟩]) (.mr m.length) = .ok (.list (cs.map PyData.int)) (m ++ [⟨false, cs.map PyData.int⟩]) := rdR_mr _ (at_new _ _ _)
  refine ⟨some (.d (.int r)), cs.set r (cs[r] + g * ((i : Int) + 2)), ?_, by simp [hc]⟩
  have hup : ∀ env : Env, getV env 2 = some (.mr m.length) → upCell env 2 (putD (.int r) (.int (cs[r] + g * ((i : Int) + 2)))) (m ++ [⟨false, cs.map PyData.int⟩]) = .ok (.next env) (m ++ [⟨false, (cs.set r (cs[r] + g * ((i : Int) + 2))).map PyData.int⟩]) := by
    intro env h
    rw [upCell_mr _ _ (j := m.length) (xs := cs.map PyData.int) (ys := (cs.set r (cs[r] + g * ((i : Int) + 2))).map PyData.int) h (at_new _ _ _) (by
      show (L2.ixN (cs.map PyData.int).length r).map _ = _
      unfold L2.ixN
      simp [show (r : Int) < cs.length by omega, List.map_set]), set_new]
  have s1 : exS (run T wf n) wf (.set 5 false (.op .mod (.bi .int [(.var 3)]) (.var 1))) [some (.d sc), some (.d (.int 3)), some (.mr m.length), some (.d (.int i)), some (.d (.int g)), e5] (m ++ [⟨false, cs.map PyData.int⟩]) = .ok (.next [some (.d sc), some (.d (.int 3)), some (.mr m.length), some (.d (.int i)), some (.d (.int g)), some (.d (.int r))]) (m ++ [⟨false, cs.map PyData.int⟩]) := by
    simp [hmod]
  have s2 : exS (run T wf n) wf (.put 2 (.var 5) (.op .add (.idx (.var 2) (.var 5)) (.op .mul (.var 4) (.op .add (.var 3) (.cst (.int 2)))))) [some (.d sc), some (.d (.int 3)), some (.mr m.length), some (.d (.int i)), some (.d (.int g)), some (.d (.int r))] (m ++ [⟨false, cs.map PyData.int⟩]) = .ok (.next [some (.d sc), some (.d (.int 3)), some (.mr m.length), some (.d (.int i)), some (.d (.int g)), some (.d (.int r))]) (m ++ [⟨false, (cs.set r (cs[r] + g * ((i : Int) + 2))).map PyData.int⟩]) := by
    have hix := idx_int hr3
    have hu := hup [some (.d sc), some (.d (.int 3)), some (.mr m.length), some (.d (.int i)), some (.d (.int g)), some (.d (.int r))] (by simp)
    rw [M.x_put]
    simp only [M.v_op, M.v_idx, M.v_var, getV_succ, getV_zero, optR_some, Res.bind_ok, nf_mr, nf_d, hrd, rdR_d, hix, M.v_cst, addI, hmul, frz_d]
    rw [onCell_mr (j := m.length) (h := by simp)]
    exact hu
  rw [clB, M.exB_cons, s1, Res.bind_ok, nextF_next, M.exB_cons, s2, Res.bind_ok, nextF_next, M.exB_nil]
theorem sp_cells (wf n : Nat) (ns : List Int) (h63 : ns.length ≤ 63) (m : Mem) : ∃ cs : List Int, run T wf (n + 1) 9 [.d (.list (ns.map PyData.int)), .d (.int 3)] m = .ok (.fr (cs.map PyData.int)) m ∧ 0 < cs.length ∧ cs.length ≤ 3 := by
  rw [run_succ d__law_cells.fnT rfl rfl (by decide)]
  obtain ⟨Y, hY⟩ : ∃ z, z = cut (ns.map PyData.int) (some 3) (some 63) := ⟨_, rfl⟩
  obtain ⟨y1, y2, y3⟩ := cutY (ns.map PyData.int)
  rw [← hY] at y1 y2 y3
  obtain ⟨c0, hc0⟩ : ∃ z : List Int, z = if ns = [] then [0] else ns.take 3 := ⟨_, rfl⟩
  have hc0l : 0 < c0.length ∧ c0.length ≤ 3 ∧ (Y ≠ [] → c0.length = 3) := by
    by_cases hn : ns = []
    · rw [hc0, if_pos hn]
      refine ⟨by simp, by simp, fun h => ?_⟩
      have := y1 h
      rw [hn] at this
      simp at this
    · have := List.length_pos_iff.mpr hn
      rw [hc0, if_neg hn]
      refine ⟨by simp; omega, by simp; omega, fun h => ?_⟩
      have := y1 h
      rw [List.length_map] at this
      simp; omega
  obtain ⟨env', m', h1, e3, e4, e5, cs, rfl, rfl, h2⟩ := forLoop_inv (t := .tp [.nm 3, .nm 4]) (body := exB (run T wf n) wf clB) (gs := [])
    (fun i env m' => ∃ e3 e4 e5 cs, env = [some (.d (.list (ns.map PyData.int))), some (.d (.int 3)), some (.mr m.length), e3, e4, e5] ∧ m' = m ++ [⟨false, cs.map PyData.int⟩] ∧ cs.length = c0.length) (xs := enumD 0 Y) 0 (env := [some (.d (.list (ns.map PyData.int))), some (.d (.int 3)), some (.mr m.length), none, none, none]) (m := m ++ [⟨false, c0.map PyData.int⟩]) (by
      rintro i x hx env m' ⟨e3, e4, e5, cs, rfl, rfl, h2⟩
      obtain ⟨y, hy, rfl⟩ := enumD_at Y 0 i x hx
      obtain ⟨g, _, rfl⟩ := List.mem_map.mp (y2 y (List.mem_of_getElem? hy))
      have hi : i < 63 := by
        have := (List.getElem?_eq_some_iff.mp hy).1
        omega
      have hne : Y ≠ [] := fun e => by rw [e] at hy; simp at hy
      obtain ⟨e5', cs', q1, q2⟩ := cl_step wf n (.list (ns.map PyData.int)) cs m i hi g (by rw [h2]; exact hc0l.2.2 hne) e5
      exact ⟨[some (.d (.list (ns.map PyData.int))), some (.d (.int 3)), some (.mr m.length), some (.d (.int i)), some (.d (.int g)), e5], _, _, by simp, q1, rfl, _, _, e5', cs', rfl, rfl, by rw [q2, hc0l.2.2 hne]⟩)
    ⟨none, none, none, c0, rfl, rfl, rfl⟩
  refine ⟨cs, ?_, by omega, by omega⟩
  have s1 : exS (run T wf n) wf (.set 2 true (.bor [(.bi .list [(.slU (.var 0) (.var 1))]), (.lst [(.cst (.int 0))])])) [some (.d (.list (ns.map PyData.int))), some (.d (.int 3)), none, none, none, none] m = .ok (.next [some (.d (.list (ns.map PyData.int))), some (.d (.int 3)), some (.mr m.length), none, none, none]) (m ++ [⟨false, c0.map PyData.int⟩]) := by
    have e1 : slc (.list (ns.map PyData.int)) none (some 3) = some (.fr ((ns.take 3).map PyData.int)) := by
      simp only [slc, cut3, List.map_take]
    by_cases hn : ns = []
    · subst hn
      simp [hc0, slc, cut3]
    · have : (ns.take 3).map PyData.int ≠ [] := by
        cases ns with
        | nil => exact absurd rfl hn
        | cons a b => simp
      simp [e1, hc0, hn]
  rw [show d__law_cells.fnT.body = [(.set 2 true (.bor [(.bi .list [(.slU (.var 0) (.var 1))]), (.lst [(.cst (.int 0))])])), (.for (.tp [(.nm 3), (.nm 4)]) .enum [(.slLU (.var 0) (.var 1) (.cst (.int 63)))] clB), (.ret (.var 2))] from rfl]
  rw [show (List.map some [Val.d (.list (ns.map PyData.int)), .d (.int 3)] ++ List.replicate (d__law_cells.fnT.n - d__law_cells.fnT.ps) none) = [some (.d (.list (ns.map PyData.int))), some (.d (.int 3)), none, none, none, none] from rfl]
  rw [M.exB_cons, s1, Res.bind_ok, nextF_next]
  simp [slc, ← hY, h1]
  rw [leave_new (at_new _ _ _) (Nat.le_refl _)]
  simp
theorem hand : ∃ b, run T 1000 29 25 [] [] = .ok b [] ∧ b = .d (.bool true) := by
  have h : (match run T 1000 29 25 [] [] with | .ok (.d (.bool true)) [] => true | _ => false) = true := by decide +kernel
  split at h
  · rename_i e
    exact ⟨_, e, rfl⟩
  · cases h
theorem spec (ns : List Int) (h : ns.length ≤ 63) : ∃ m, run T 1000 30 27 [.d (.list (ns.map PyData.int))] [] = .ok (.d (.bool true)) m := by
  refine ⟨[], ?_⟩
  rw [run_succ (n := 29) d_law.fnT rfl rfl (by decide)]
  obtain ⟨b, hh, rfl⟩ := hand
  obtain ⟨cs, h1, h2, h3⟩ := sp_cells 1000 28 ns h []
  have hl : (cs.map PyData.int).length = cs.length := by simp
  simp [d_law, Df.fnT, b_law, hh, h1]
  rw [M.walk_range (by omega)]
  simp
  rw [lcLoop_map (fun _ => .bool true) rfl]
  · have := allD_map (fun _ : PyData => true) (rangeD 0 cs.length)
    have e : allB (rangeD 0 cs.length) (fun _ => true) = true := allB_of fun _ _ => rfl
    simp [this, e]
  · intro x hx
    obtain ⟨i, hi⟩ := List.mem_iff_getElem?.mp hx
    obtain ⟨rfl, hlt⟩ := rangeD_at cs.length 0 i x hi
    obtain ⟨a, b, q1, q2, q3, q4⟩ := sp_box 1000 28 i cs [] hlt h3
    obtain ⟨m', r1, r2⟩ := sp_right 1000 21 0 0 (by omega) [⟨false, [.int a, .int b, .int 0]⟩] ⟨a, b, 0, rfl, q2, q3, q4, by omega, by omega⟩ (by omega)
    simp [q1, r1]
end Ra.K0


set_option Elab.async false
set_option linter.all false
set_option maxRecDepth 100000
set_option maxHeartbeats 0
namespace K0
open PySem PySem.Spec PyProof.Rows L2 Ra
abbrev fa : List He.Fa := faOfD D free glo
abbrev fn : List He.DefD := fnOfD D
abbrev R : PySem.W.OpenRow := PySem.W.OpenLaw.row PySem.Challenge.rw_reportalike_k00_steps_plans_counts_or_no
abbrev hk : PySem.W.Hook := hookN 4 fa fn
def ob (s : PySem.W.SharedT) : He.AlD × Bool := obN 4 fa fn (HandSHeadRun.getT s)
theorem ob_eq (s : PySem.W.SharedT) : ob s = hk.obs s.abs := obN_eq (HandSHeadRun.getT_eq s)
def loose : List Str := ["is_number", "is_name", "rises", "is_condition", "is_step", "is_plan", "is_counts", "_law_box", "_law_take", "_law_cells", "_law_of", "_law_pick", "_law_same", "_law_form", "_law_on", "_law_stock", "_law_is_tag", "_law_rises", "_law_are_pairs", "_law_is_on", "_law_is_bit", "_law_is_form", "_law_is_stock", "_law_spoilt", "_law_steps_right", "_law_hand_right", "_law_right", "LETTERS"]
theorem run (w : World) : HandSHeadRun.RunEq R (PySem.W.view R.prog [32]) hk ob 4000 loose w := by
  intro os
  kernel_rfl
theorem bn_is_number : BndD d_is_number := ⟨fun _ _ _ _ _ _ _ _ _ _ us h => match us, h with | [_], _ => rfl, fun _ _ _ _ _ _ _ _ _ _ us h => match us, h with | [_], _ => rfl⟩
theorem bn_is_name : BndD d_is_name := ⟨fun _ _ _ _ _ _ _ _ _ _ us h => match us, h with | [_], _ => rfl, fun _ _ _ _ _ _ _ _ _ _ us h => match us, h with | [_], _ => rfl⟩
theorem bn_rises : BndD d_rises := ⟨fun _ _ _ _ _ _ _ _ _ _ us h => match us, h with | [_], _ => rfl, fun _ _ _ _ _ _ _ _ _ _ us h => match us, h with | [_], _ => rfl⟩
theorem bn_is_condition : BndD d_is_condition := ⟨fun _ _ _ _ _ _ _ _ _ _ us h => match us, h with | [_], _ => rfl, fun _ _ _ _ _ _ _ _ _ _ us h => match us, h with | [_], _ => rfl⟩
theorem bn_is_step : BndD d_is_step := ⟨fun _ _ _ _ _ _ _ _ _ _ us h => match us, h with | [_], _ => rfl, fun _ _ _ _ _ _ _ _ _ _ us h => match us, h with | [_], _ => rfl⟩
theorem bn_is_plan : BndD d_is_plan := ⟨fun _ _ _ _ _ _ _ _ _ _ us h => match us, h with | [_], _ => rfl, fun _ _ _ _ _ _ _ _ _ _ us h => match us, h with | [_], _ => rfl⟩
theorem bn_is_counts : BndD d_is_counts := ⟨fun _ _ _ _ _ _ _ _ _ _ us h => match us, h with | [_], _ => rfl, fun _ _ _ _ _ _ _ _ _ _ us h => match us, h with | [_], _ => rfl⟩
theorem bn__law_box : BndD d__law_box := ⟨fun _ _ _ _ _ _ _ _ _ _ us h => match us, h with | [_, _], _ => rfl, fun _ _ _ _ _ _ _ _ _ _ us h => match us, h with | [_, _], _ => rfl⟩
theorem bn__law_take : BndD d__law_take := ⟨fun _ _ _ _ _ _ _ _ _ _ us h => match us, h with | [_, _], _ => rfl, fun _ _ _ _ _ _ _ _ _ _ us h => match us, h with | [_, _], _ => rfl⟩
theorem bn__law_cells : BndD d__law_cells := ⟨fun _ _ _ _ _ _ _ _ _ _ us h => match us, h with | [_, _], _ => rfl, fun _ _ _ _ _ _ _ _ _ _ us h => match us, h with | [_, _], _ => rfl⟩
theorem bn__law_of : BndD d__law_of := ⟨fun _ _ _ _ _ _ _ _ _ _ us h => match us, h with | [_, _], _ => rfl, fun _ _ _ _ _ _ _ _ _ _ us h => match us, h with | [_, _], _ => rfl⟩
theorem bn__law_pick : BndD d__law_pick := ⟨fun _ _ _ _ _ _ _ _ _ _ us h => match us, h with | [_, _, _], _ => rfl, fun _ _ _ _ _ _ _ _ _ _ us h => match us, h with | [_, _, _], _ => rfl⟩
theorem bn__law_same : BndD d__law_same := ⟨fun _ _ _ _ _ _ _ _ _ _ us h => match us, h with | [_, _], _ => rfl, fun _ _ _ _ _ _ _ _ _ _ us h => match us, h with | [_, _], _ => rfl⟩
theorem bn__law_form : BndD d__law_form := ⟨fun _ _ _ _ _ _ _ _ _ _ us h => match us, h with | [_, _, _], _ => rfl, fun _ _ _ _ _ _ _ _ _ _ us h => match us, h with | [_, _, _], _ => rfl⟩
theorem bn__law_on : BndD d__law_on := ⟨fun _ _ _ _ _ _ _ _ _ _ us h => match us, h with | [_, _], _ => rfl, fun _ _ _ _ _ _ _ _ _ _ us h => match us, h with | [_, _], _ => rfl⟩
theorem bn__law_stock : BndD d__law_stock := ⟨fun _ _ _ _ _ _ _ _ _ _ us h => match us, h with | [_, _, _, _], _ => rfl, fun _ _ _ _ _ _ _ _ _ _ us h => match us, h with | [_, _, _, _], _ => rfl⟩
theorem bn__law_is_tag : BndD d__law_is_tag := ⟨fun _ _ _ _ _ _ _ _ _ _ us h => match us, h with | [_], _ => rfl, fun _ _ _ _ _ _ _ _ _ _ us h => match us, h with | [_], _ => rfl⟩
theorem bn__law_rises : BndD d__law_rises := ⟨fun _ _ _ _ _ _ _ _ _ _ us h => match us, h with | [_], _ => rfl, fun _ _ _ _ _ _ _ _ _ _ us h => match us, h with | [_], _ => rfl⟩
theorem bn__law_are_pairs : BndD d__law_are_pairs := ⟨fun _ _ _ _ _ _ _ _ _ _ us h => match us, h with | [_], _ => rfl, fun _ _ _ _ _ _ _ _ _ _ us h => match us, h with | [_], _ => rfl⟩
theorem bn__law_is_on : BndD d__law_is_on := ⟨fun _ _ _ _ _ _ _ _ _ _ us h => match us, h with | [_], _ => rfl, fun _ _ _ _ _ _ _ _ _ _ us h => match us, h with | [_], _ => rfl⟩
theorem bn__law_is_bit : BndD d__law_is_bit := ⟨fun _ _ _ _ _ _ _ _ _ _ us h => match us, h with | [_], _ => rfl, fun _ _ _ _ _ _ _ _ _ _ us h => match us, h with | [_], _ => rfl⟩
theorem bn__law_is_form : BndD d__law_is_form := ⟨fun _ _ _ _ _ _ _ _ _ _ us h => match us, h with | [_], _ => rfl, fun _ _ _ _ _ _ _ _ _ _ us h => match us, h with | [_], _ => rfl⟩
theorem bn__law_is_stock : BndD d__law_is_stock := ⟨fun _ _ _ _ _ _ _ _ _ _ us h => match us, h with | [_], _ => rfl, fun _ _ _ _ _ _ _ _ _ _ us h => match us, h with | [_], _ => rfl⟩
theorem bn__law_spoilt : BndD d__law_spoilt := ⟨fun _ _ _ _ _ _ _ _ _ _ us h => match us, h with | [_, _, _], _ => rfl, fun _ _ _ _ _ _ _ _ _ _ us h => match us, h with | [_, _, _], _ => rfl⟩
theorem bn__law_steps_right : BndD d__law_steps_right := ⟨fun _ _ _ _ _ _ _ _ _ _ us h => match us, h with | [], _ => rfl, fun _ _ _ _ _ _ _ _ _ _ us h => match us, h with | [], _ => rfl⟩
theorem bn__law_hand_right : BndD d__law_hand_right := ⟨fun _ _ _ _ _ _ _ _ _ _ us h => match us, h with | [], _ => rfl, fun _ _ _ _ _ _ _ _ _ _ us h => match us, h with | [], _ => rfl⟩
theorem bn__law_right : BndD d__law_right := ⟨fun _ _ _ _ _ _ _ _ _ _ us h => match us, h with | [_], _ => rfl, fun _ _ _ _ _ _ _ _ _ _ us h => match us, h with | [_], _ => rfl⟩
theorem bn_law : BndD d_law := ⟨fun _ _ _ _ _ _ _ _ _ _ us h => match us, h with | [_], _ => rfl, fun _ _ _ _ _ _ _ _ _ _ us h => match us, h with | [_], _ => rfl⟩
theorem bnds : ∀ d ∈ D, BndD d := List.forall_mem_cons.mpr ⟨bn_is_number, List.forall_mem_cons.mpr ⟨bn_is_name, List.forall_mem_cons.mpr ⟨bn_rises, List.forall_mem_cons.mpr ⟨bn_is_condition, List.forall_mem_cons.mpr ⟨bn_is_step, List.forall_mem_cons.mpr ⟨bn_is_plan, List.forall_mem_cons.mpr ⟨bn_is_counts, List.forall_mem_cons.mpr ⟨bn__law_box, List.forall_mem_cons.mpr ⟨bn__law_take, List.forall_mem_cons.mpr ⟨bn__law_cells, List.forall_mem_cons.mpr ⟨bn__law_of, List.forall_mem_cons.mpr ⟨bn__law_pick, List.forall_mem_cons.mpr ⟨bn__law_same, List.forall_mem_cons.mpr ⟨bn__law_form, List.forall_mem_cons.mpr ⟨bn__law_on, List.forall_mem_cons.mpr ⟨bn__law_stock, List.forall_mem_cons.mpr ⟨bn__law_is_tag, List.forall_mem_cons.mpr ⟨bn__law_rises, List.forall_mem_cons.mpr ⟨bn__law_are_pairs, List.forall_mem_cons.mpr ⟨bn__law_is_on, List.forall_mem_cons.mpr ⟨bn__law_is_bit, List.forall_mem_cons.mpr ⟨bn__law_is_form, List.forall_mem_cons.mpr ⟨bn__law_is_stock, List.forall_mem_cons.mpr ⟨bn__law_spoilt, List.forall_mem_cons.mpr ⟨bn__law_steps_right, List.forall_mem_cons.mpr ⟨bn__law_hand_right, List.forall_mem_cons.mpr ⟨bn__law_right, List.forall_mem_cons.mpr ⟨bn_law, List.forall_mem_nil _⟩⟩⟩⟩⟩⟩⟩⟩⟩⟩⟩⟩⟩⟩⟩⟩⟩⟩⟩⟩⟩⟩⟩⟩⟩⟩⟩⟩
end K0
open PySem PySem.W PySem.Calls PyProof.Rows Ra
theorem PySem.Challenge.cw_reportalike_k00_steps_plans_counts_or_no_holds : PySem.Challenge.rw_reportalike_k00_steps_plans_counts_or_no.Holds := by
  w_on; o_law
  refine HandSHeadRun.head_any (r := K0.R) (q := view K0.R.prog [32]) (H := K0.hk) (ob := K0.ob) (M := 4000) (loose := K0.loose) (d := HandSHeadRun.topDef K0.R.prog 32) (kwd := []) K0.ob_eq
    (by kernel_rfl) (fun s => by kernel_rfl) K0.run (by kernel_rfl) (by kernel_rfl) (by kernel_rfl) (by rfl) (by first | assumption | decide +kernel) (by decide +kernel) ⟨rfl, rfl, rfl, rfl, rfl, by decide +kernel⟩ ?hw ?hc
  case hw => w_witness2
  case hc =>
    refine L2.walk_ofE (l := PySem.Challenge.rw_reportalike_k00_steps_plans_counts_or_no) (n := 63) (k := 30) (x := "_law_script") (CX := L2.CX0) rfl (by decide) (by kernel_rfl) ⟨rfl, by decide, by decide⟩ ?F (fun _ _ _ _ z => z)
    intro w mg fa h Y G hmg0
    obtain ⟨K, KX, c, hN⟩ := Y
    have hmg : mg ("law" : PySem.Str) = some (.ref fa) := by
      rw [← show (HandSHeadRun.topDef K0.R.prog 32).name = ("law" : PySem.Str) by kernel_rfl]
      exact hmg0
    obtain ⟨fd, hb, hF⟩ := head_ok (P := (PySem.Challenge.rw_reportalike_k00_steps_plans_counts_or_no).prog) (w := w) (D := K0.D) (free := K0.free) (glo := K0.glo) 1000 30 KX G c K0.bnds (by decide +kernel) K0.chk (l := 27) (dl := K0.d_law) rfl hmg (x := "_law_script") rfl
    exact ⟨K, fd, _, KX, hb, fun H a ns hl hO hS => ⟨rfl, fun hz => sp_end hN hO hz hS (Ra.K0.spec ns hl)⟩, fun base _ _ => hF base⟩

