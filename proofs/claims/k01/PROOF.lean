import PyProof.Rows.All
import HandS.ForMost
import KE.SortData
import HandS.Flow
import HandS.Deep
import HandS.TupAny
import HandS.IsInst
import HandS.Style
import PyProof.TupleOfStr
import HandS.Zip
import HandS.NoneIn
import KE.GoesEnum
import HandS.Defaults
import HandS.Exc
import HandS.WordsExc
import HandS.ExcOwn
import HandS.Star
import HandS.DictComp
import KE.KDictList
import HandS.Conv
import HandS.TupSets
import HandS.SetTxt0
import KE.KeyNested
import KE.DataCmp
import HandS.ExcIs
import HandS.ExcField
import KE.KExcSuper
import HandS.Ends
import HandS.HeadHook1
import HandS.TryMany
import KE.KExcIs
import KE.DataFind
import HandS.EndBits
import HandS.Head0
import HandS.Head1
import HandS.Head2
import HandS.HeadEnd
import HandS.HeadHook2
import HandS.HeadHook4
import PySem.Challenge.RW_reportalike_k01_what_runs_at_a_variant
set_option Elab.async false
set_option linter.all false
set_option autoImplicit false
set_option maxRecDepth 100000
/-! Ra: a small evaluator over plain data. -/
namespace Ra
open PySem

/-- a value of the evaluator: data; a list that is new; a cell (a list that may be changed) -/
inductive Val where
  | d (x : PyData) | fr (xs : List PyData) | mr (k : Nat) | dv (kvs : List (PyData × PyData))
structure Cell where
  fz : Bool
  xs : List PyData
abbrev Mem := List Cell
structure Exn where
  cls : Nat
  vals : List PyData
inductive Res (α : Type) where
  | ok (a : α) (m : Mem) | exc (x : Exn) (m : Mem) | fail
def Res.bind {α β : Type} (r : Res α) (f : α → Mem → Res β) : Res β :=
  match r with
  | .ok a m => f a m
  | .exc x m => .exc x m
  | .fail => .fail
@[simp] theorem Res.bind_ok {α β : Type} (a : α) (m : Mem) (f : α → Mem → Res β) : (Res.ok a m).bind f = f a m := rfl
@[simp] theorem Res.bind_fail {α β : Type} (f : α → Mem → Res β) : (Res.fail : Res α).bind f = .fail := rfl
@[simp] theorem Res.bind_exc {α β : Type} (x : Exn) (m : Mem) (f : α → Mem → Res β) : (Res.exc x m : Res α).bind f = .exc x m := rfl
/-- an exception where none is served -/
def Res.noX {α : Type} (r : Res α) : Res α := match r with
  | .ok a m => .ok a m
  | .exc _ _ => .fail
  | .fail => .fail
@[simp] theorem Res.noX_ok {α : Type} (a : α) (m : Mem) : (Res.ok a m).noX = .ok a m := rfl
@[simp] theorem Res.noX_fail {α : Type} : (Res.fail : Res α).noX = .fail := rfl
@[simp] theorem Res.noX_exc {α : Type} (x : Exn) (m : Mem) : (Res.exc x m : Res α).noX = .fail := rfl
/-- the cells from n on go -/
def Res.cutX {α : Type} (n : Nat) (r : Res α) : Res α := match r with
  | .ok a m => .ok a m
  | .exc x m => .exc x (m.take n)
  | .fail => .fail
@[simp] theorem Res.cutX_ok {α : Type} (n : Nat) (a : α) (m : Mem) : (Res.ok a m).cutX n = .ok a m := rfl
@[simp] theorem Res.cutX_fail {α : Type} (n : Nat) : (Res.fail : Res α).cutX n = .fail := rfl
@[simp] theorem Res.cutX_exc {α : Type} (n : Nat) (x : Exn) (m : Mem) : (Res.exc x m : Res α).cutX n = .exc x (m.take n) := rfl
def optR {α : Type} (o : Option α) (m : Mem) : Res α :=
  match o with
  | some a => .ok a m
  | none => .fail
@[simp] theorem optR_some {α : Type} (a : α) (m : Mem) : optR (some a) m = .ok a m := rfl
@[simp] theorem optR_none {α : Type} (m : Mem) : optR (none : Option α) m = .fail := rfl

def Val.nf : Val → Val
  | .fr xs => .d (.list xs)
  | v => v
/-- read a value -/
def rd (m : Mem) : Val → Option PyData
  | .d x => some x
  | .fr xs => some (.list xs)
  | .mr k => (m[k]?).map fun c => .list c.xs
  | .dv _ => none
/-- put a value into a container: a cell is fixed -/
def frz (v : Val) (m : Mem) : Res PyData :=
  match v with
  | .d x => .ok x m
  | .fr xs => .ok (.list xs) m
  | .mr k => match m[k]? with
    | some c => .ok (.list c.xs) (m.set k { c with fz := true })
    | none => .fail
  | .dv _ => .fail
/-- a new list becomes a cell -/
def mkCell (v : Val) (m : Mem) : Res Val :=
  match v with
  | .fr xs => .ok (.mr m.length) (m ++ [⟨false, xs⟩])
  | .d x => .ok (.d x) m
  | .mr k => .ok (.mr k) m
  | .dv kvs => .ok (.dv kvs) m

inductive Bop where
  | add | sub | mul | fdiv | mod | pow
  deriving DecidableEq
inductive Cop where
  | eq | ne | lt | le | gt | ge | isin | notin
  deriving DecidableEq
inductive Cls where
  | int | bool | str | list | tuple | dict
  deriving DecidableEq
inductive Bi where
  | len | abs | int | list | tuple | sorted | sortedset | lenset | all | any | min2 | max2
  deriving DecidableEq
/-- what is walked -/
inductive Sk where
  | seq | range | range2 | zip | enum
  deriving DecidableEq
inductive Tg where
  | nm (i : Nat) | tp (ts : List Tg)

/-- 2 ^ 24 -/
def lim : Nat := 16777216
/-- the texts that are served -/
def sOk (x : Str) : Bool := PyData.strOk x && decide (x.length ≤ lim)
def small64 (i : Int) : Bool := decide (-18446744073709551616 < i) && decide (i < 18446744073709551616)

def addD : PyData → PyData → Option Val
  | .int i, .int j => some (.d (.int (i + j)))
  | .str x, .str y => if x.length + y.length ≤ lim then some (.d (.str (x ++ y))) else none
  | .list xs, .list ys => if xs.length + ys.length ≤ lim then some (.fr (xs ++ ys)) else none
  | .tuple xs, .tuple ys => if xs.length + ys.length ≤ lim then some (.d (.tuple (xs ++ ys))) else none
  | _, _ => none
def subD : PyData → PyData → Option Val
  | .int i, .int j => some (.d (.int (i - j)))
  | _, _ => none
def mulD : PyData → PyData → Option Val
  | .int i, .int j => if (small64 i || small64 j) = true then some (.d (.int (i * j))) else none
  | .list xs, .int k => if 0 ≤ k ∧ k < 1000000 ∧ xs.length * k.toNat ≤ lim then some (.fr (List.replicate k.toNat xs).flatten) else none
  | _, _ => none
def fdivD : PyData → PyData → Option Val
  | .int i, .int j => if j ≠ 0 ∧ j.natAbs < 1073741824 then some (.d (.int (i.fdiv j))) else none
  | _, _ => none
def modD : PyData → PyData → Option Val
  | .int i, .int j => if j ≠ 0 then some (.d (.int (i.fmod j))) else none
  | _, _ => none
def powD : PyData → PyData → Option Val
  | .int i, .int j => if 0 ≤ j ∧ j ≤ 1000 ∧ i.natAbs < 18446744073709551616 then some (.d (.int (i ^ j.toNat))) else none
  | _, _ => none
def bop : Bop → PyData → PyData → Option Val
  | .add => addD
  | .sub => subD
  | .mul => mulD
  | .fdiv => fdivD
  | .mod => modD
  | .pow => powD

def deep (x y : PyData) : Bool := decide (min x.depth y.depth ≤ 64)
def strLt (x y : Str) : Bool := decide (x.cps.toList < y.cps.toList)
def strLe (x y : Str) : Bool := decide (x.cps.toList ≤ y.cps.toList)
def inStr (x y : Str) : Bool := !(Builtin.Str.occurrences y x 0 y.length 1).isEmpty
/-- x in ys -/
def inAll (x : PyData) (ys : List PyData) : Option Bool := if x.depth ≤ 64 then some (ys.any fun y => PyData.eqv y x) else none
def ltD : PyData → PyData → Option Bool
  | .int i, .int j => some (decide (i < j))
  | .str i, .str j => some (strLt i j)
  | .tuple xs, .tuple ys => if (PySem.W.alike (.tuple xs) (.tuple ys) && deep (.tuple xs) (.tuple ys)) = true then some (PySem.W.dataLt (.tuple xs) (.tuple ys)) else none
  | _, _ => none
def leD : PyData → PyData → Option Bool
  | .int i, .int j => some (decide (i ≤ j))
  | .str i, .str j => some (!strLt j i)
  | _, _ => none
def gtD : PyData → PyData → Option Bool
  | .int i, .int j => some (decide (j < i))
  | _, _ => none
def geD : PyData → PyData → Option Bool
  | .int i, .int j => some (decide (j ≤ i))
  | _, _ => none
def inD : PyData → PyData → Option Bool
  | .str x, .str y => some (inStr x y)
  | x, .list ys => inAll x ys
  | x, .tuple ys => inAll x ys
  | _, _ => none
def cmp : Cop → PyData → PyData → Option Bool
  | .eq, x, y => if deep x y = true then some (PyData.eqv x y) else none
  | .ne, x, y => if deep x y = true then some (!PyData.eqv x y) else none
  | .lt, x, y => ltD x y
  | .le, x, y => leD x y
  | .gt, x, y => gtD x y
  | .ge, x, y => geD x y
  | .isin, x, y => inD x y
  | .notin, x, y => (inD x y).map (!·)

def isNone : PyData → Bool
  | .none => true
  | _ => false
def truth : PyData → Option Bool
  | .none => some false
  | .bool b => some b
  | .int i => some (i != 0)
  | .str s => some (s.length != 0)
  | .list xs => some (!xs.isEmpty)
  | .tuple xs => some (!xs.isEmpty)
  | .dict _ => none

def isi : PyData → Cls → Bool
  | .bool _, .bool => true
  | .bool _, .int => true
  | .int _, .int => true
  | .str _, .str => true
  | .list _, .list => true
  | .tuple _, .tuple => true
  | _, _ => false

def one (c : Nat) : PyData := .str ⟨#[c]⟩
def signs (s : Str) : List PyData := s.cps.toList.map one
/-- the items of a sequence -/
def items : PyData → Option (List PyData)
  | .list xs => some xs
  | .tuple xs => some xs
  | .str s => some (signs s)
  | _ => none
def idx (x : PyData) (i : PyData) : Option PyData :=
  match x, i with
  | .list xs, .int i => L2.atI xs i
  | .tuple xs, .int i => L2.atI xs i
  | .str s, .int i => (L2.atI s.cps.toList i).map one
  | _, _ => none
def cut {α : Type} (xs : List α) (lo hi : Option Int) : List α :=
  (xs.drop (HT.sIx xs.length 0 lo)).take (HT.sIx xs.length xs.length hi - HT.sIx xs.length 0 lo)
def cutS (z : Str) (lo hi : Option Int) : Str := ⟨(cut z.cps.toList lo hi).toArray⟩
def slc (x : PyData) (lo hi : Option Int) : Option Val :=
  match x with
  | .list xs => some (.fr (cut xs lo hi))
  | .tuple xs => some (.d (.tuple (cut xs lo hi)))
  | .str z => if sOk (cutS z lo hi) = true then some (.d (.str (cutS z lo hi))) else none
  | _ => none
def revd : PyData → Option Val
  | .list xs => some (.fr xs.reverse)
  | .tuple xs => some (.d (.tuple xs.reverse))
  | _ => none

def bools : List PyData → Option (List Bool)
  | [] => some []
  | .bool b :: r => (bools r).map (b :: ·)
  | _ => none
/-! order of data -/
/-- x is put behind all that are not greater -/
def ins (x : PyData) : List PyData → List PyData
  | [] => [x]
  | y :: ys => if PySem.W.dataLt x y = true then x :: y :: ys else y :: ins x ys
def isort : List PyData → List PyData → List PyData
  | acc, [] => acc
  | acc, x :: xs => isort (ins x acc) xs
def allAlike (xs : List PyData) : Bool := xs.all fun x => xs.all fun y => PySem.W.alike x y
def isTupC : PyData → Bool
  | .tuple (_ :: _) => true
  | _ => false
def isPlainC : PyData → Bool
  | .int _ => true
  | .str _ => true
  | _ => false
def isTup : PyData → Bool
  | .tuple _ => true
  | _ => false
/-- tuples, the first of them empty -/
def tup0 : List PyData → Bool
  | .tuple [] :: r => r.all isTup
  | _ => false
def sortable (xs : List PyData) : Bool := xs.all isTupC || xs.all isPlainC || tup0 xs
def sortD (xs : List PyData) : Option (List PyData) := if (allAlike xs && sortable xs && decide (PyData.depthAll xs ≤ 64)) = true then some (isort [] xs) else none
def dedup : List PyData → List PyData → List PyData
  | acc, [] => acc.reverse
  | acc, x :: xs => if acc.any (fun y => PyData.eqv y x) then dedup acc xs else dedup (x :: acc) xs
def allStr : List PyData → Bool
  | [] => true
  | .str _ :: r => allStr r
  | _ => false
def lenD : List PyData → Option Val
  | [.list xs] => some (.d (.int xs.length))
  | [.tuple xs] => some (.d (.int xs.length))
  | [.str s] => some (.d (.int s.length))
  | _ => none
def absD : List PyData → Option Val
  | [.int i] => some (.d (.int (if i < 0 then -i else i)))
  | _ => none
def intD : List PyData → Option Val
  | [.int i] => some (.d (.int i))
  | [.bool b] => some (.d (.int (if b then 1 else 0)))
  | _ => none
def listD : List PyData → Option Val
  | [x] => (items x).map .fr
  | _ => none
def tupleD : List PyData → Option Val
  | [x] => (items x).map fun xs => .d (.tuple xs)
  | _ => none
def sortedD : List PyData → Option Val
  | [.list xs] => (sortD xs).map .fr
  | [.tuple xs] => (sortD xs).map .fr
  | _ => none
/-! what may be a key: numbers, texts, None, tuples of such -/
mutual
def nestB : PyData → Bool
  | .none => true
  | .int _ => true
  | .str _ => true
  | .tuple xs => nestBs xs
  | _ => false
def nestBs : List PyData → Bool
  | [] => true
  | x :: xs => nestB x && nestBs xs
end
def keyTup (xs : List PyData) : Bool := xs.all fun x => isTupC x && nestB x && decide (x.depth ≤ 8)
def sortedsetD : List PyData → Option Val
  | [.list xs] => if allStr xs = true ∧ xs.length < 4000 then (sortD (dedup [] xs)).map .fr else if keyTup xs = true ∧ xs.length < 64 then (sortD (dedup [] xs)).map .fr else none
  | [.tuple xs] => if allStr xs = true ∧ xs.length < 4000 then (sortD (dedup [] xs)).map .fr else if keyTup xs = true ∧ xs.length < 64 then (sortD (dedup [] xs)).map .fr else none
  | _ => none
def lensetD : List PyData → Option Val
  | [.list xs] => if allStr xs = true ∧ xs.length < 4000 then some (.d (.int (dedup [] xs).length)) else if keyTup xs = true ∧ xs.length < 64 then some (.d (.int (dedup [] xs).length)) else none
  | [.tuple xs] => if allStr xs = true ∧ xs.length < 4000 then some (.d (.int (dedup [] xs).length)) else if keyTup xs = true ∧ xs.length < 64 then some (.d (.int (dedup [] xs).length)) else none
  | _ => none
def allD : List PyData → Option Val
  | [.list xs] => (bools xs).map fun bs => .d (.bool (bs.all id))
  | _ => none
def anyD : List PyData → Option Val
  | [.list xs] => (bools xs).map fun bs => .d (.bool (bs.any id))
  | _ => none
def min2D : List PyData → Option Val
  | [.int i, .int j] => some (.d (.int (if j < i then j else i)))
  | _ => none
def max2D : List PyData → Option Val
  | [.int i, .int j] => some (.d (.int (if i < j then j else i)))
  | _ => none
def bi : Bi → List PyData → Option Val
  | .len => lenD
  | .abs => absD
  | .int => intD
  | .list => listD
  | .tuple => tupleD
  | .sorted => sortedD
  | .sortedset => sortedsetD
  | .lenset => lensetD
  | .all => allD
  | .any => anyD
  | .min2 => min2D
  | .max2 => max2D

inductive E where
  | bad
  | var (i : Nat)
  | cst (c : PyData)
  | glo (c : PyData)
  | tup (es : List E)
  | lst (es : List E)
  | call (f : Nat) (es : List E)
  | callk (f : Nat) (is : List Nat) (es : List E)
  | callc (f : Nat) (es : List E)
  | cell (e : E)
  | op (o : Bop) (a b : E)
  | neg (a : E)
  | cmp (o : Cop) (a b : E)
  | chain (o o' : Cop) (a b c : E)
  | isN (a : E)
  | isnN (a : E)
  | band (es : List E)
  | bor (es : List E)
  | not (a : E)
  | ite (c a b : E)
  | idx (a i : E)
  | sl (a : E)
  | slL (a lo : E)
  | slU (a hi : E)
  | slLU (a lo hi : E)
  | rev (a : E)
  | bi (b : Bi) (es : List E)
  | isi (a : E) (cs : List Cls)
  | pop (i : Nat) (e : E)
  | tupS (bs : List Bool) (es : List E)
  | lstS (bs : List Bool) (es : List E)
  | dc (own : List Nat) (t : Tg) (k : Sk) (src : List E) (tests : List E) (ke ve : E)
  | dmk (e : E)
  | dget (d k x : E)
  | dat (d k : E)
  | din (neg : Bool) (k d : E)
  | lidx (i : Nat) (e : E)
  | lc (own : List Nat) (t : Tg) (k : Sk) (src : List E) (tests : List E) (elt : E)
  | lc2 (own own1 : List Nat) (t : Tg) (k : Sk) (src : List E) (tests : List E) (t1 : Tg) (k1 : Sk) (src1 : List E) (tests1 : List E) (elt : E)

abbrev Env := List (Option Val)
def getV (env : Env) (i : Nat) : Option Val := (env[i]?).getD none
def setV (env : Env) (i : Nat) (v : Val) : Env := env.set i (some v)
def wipe (env : Env) : List Nat → Env
  | [] => env
  | i :: r => (wipe env r).set i none
/-! assignment to a target -/
mutual
def asg : Tg → PyData → Env → Option Env
  | .nm i, x, env => if i < env.length then some (setV env i (.d x)) else none
  | .tp ts, x, env => match x with
    | .tuple xs => asgs ts xs env
    | .list xs => asgs ts xs env
    | _ => none
def asgs : List Tg → List PyData → Env → Option Env
  | [], [], env => some env
  | t :: ts, x :: xs, env => match asg t x env with
    | some env' => asgs ts xs env'
    | none => none
  | _, _, _ => none
end
def zipD : List PyData → List PyData → List PyData
  | x :: xs, y :: ys => .tuple [x, y] :: zipD xs ys
  | _, _ => []
def enumD : Nat → List PyData → List PyData
  | _, [] => []
  | i, x :: xs => .tuple [.int i, x] :: enumD (i + 1) xs
def rangeD (lo : Int) : Nat → List PyData
  | 0 => []
  | n + 1 => .int lo :: rangeD (lo + 1) n
/-- the cells that a walk leans on -/
def guards : List Val → List Nat
  | [] => []
  | .mr k :: r => k :: guards r
  | _ :: r => guards r
def lookAll (m : Mem) : List Val → Option (List PyData)
  | [] => some []
  | v :: r => match rd m v, lookAll m r with
    | some x, some xs => some (x :: xs)
    | _, _ => none
def walk (k : Sk) (xs : List PyData) : Option (List PyData) :=
  match k, xs with
  | .seq, [x] => items x
  | .range, [.int n] => if n ≤ 1000000 ∧ -1000000 ≤ n then some (rangeD 0 n.toNat) else none
  | .range2, [.int a, .int b] => if a ≤ 1000000 ∧ -1000000 ≤ a ∧ b ≤ 1000000 ∧ -1000000 ≤ b then some (rangeD a (b - a).toNat) else none
  | .zip, [.list xs, .list ys] => some (zipD xs ys)
  | .zip, [.tuple xs, .tuple ys] => some (zipD xs ys)
  | .enum, [.list xs] => some (enumD 0 xs)
  | .enum, [.tuple xs] => some (enumD 0 xs)
  | _, _ => none
/-! equality of data -/
mutual
def beqD : PyData → PyData → Bool
  | .none, .none => true
  | .bool a, .bool b => a == b
  | .int i, .int j => i == j
  | .str x, .str y => x == y
  | .list xs, .list ys => beqDs xs ys
  | .tuple xs, .tuple ys => beqDs xs ys
  | .dict xs, .dict ys => beqPs xs ys
  | _, _ => false
def beqDs : List PyData → List PyData → Bool
  | [], [] => true
  | x :: xs, y :: ys => beqD x y && beqDs xs ys
  | _, _ => false
def beqPs : List (PyData × PyData) → List (PyData × PyData) → Bool
  | [], [] => true
  | (x, u) :: xs, (y, v) :: ys => beqD x y && beqD u v && beqPs xs ys
  | _, _ => false
end
/-- the cells that are walked stay as they were -/
def same : List Nat → Mem → Mem → Bool
  | [], _, _ => true
  | k :: r, m, m' => (match m[k]?, m'[k]? with
      | some c, some c' => beqDs c.xs c'.xs
      | _, _ => false) && same r m m'

/-! expressions -/
abbrev Call := Nat → List Val → Mem → Res Val
abbrev EV := Env → Mem → Res Val
abbrev ET := Env → Mem → Res Bool
/-- an expression as a value, as a test -/
structure P where
  v : EV
  t : ET
def rdR (m : Mem) (v : Val) : Res PyData := optR (rd m v) m
def truR (v : Val) (m : Mem) : Res Bool := (rdR m v).bind fun x m1 => optR (truth x) m1
def ofV (v : EV) : P := ⟨v, fun env m => (v env m).bind truR⟩
def boolR (b : Bool) (m : Mem) : Res Val := .ok (.d (.bool b)) m

/-- the items of a container -/
def cItems : List P → Env → Mem → Res (List PyData)
  | [], _, m => .ok [] m
  | e :: es, env, m => (e.v env m).bind fun v m1 => (frz v m1).bind fun x m2 => (cItems es env m2).bind fun xs m3 => .ok (x :: xs) m3
/-- arguments -/
def cArgs : List P → Env → Mem → Res (List Val)
  | [], _, m => .ok [] m
  | e :: es, env, m => (e.v env m).bind fun v m1 => (cArgs es env m1).bind fun vs m2 => .ok (v.nf :: vs) m2
def cTup (es : List P) : EV := fun env m => (cItems es env m).bind fun xs m1 => .ok (.d (.tuple xs)) m1
def cLst (es : List P) : EV := fun env m => (cItems es env m).bind fun xs m1 => .ok (.fr xs) m1
def seqI : PyData → Option (List PyData)
  | .list xs => some xs
  | .tuple xs => some xs
  | _ => none
/-- .. some of them starred -/
def cItemsS : List Bool → List P → Env → Mem → Res (List PyData)
  | [], [], _, m => .ok [] m
  | false :: bs, e :: es, env, m => (e.v env m).bind fun v m1 => (frz v m1).bind fun x m2 => (cItemsS bs es env m2).bind fun xs m3 => .ok (x :: xs) m3
  | true :: bs, e :: es, env, m => (e.v env m).bind fun v m1 => (rdR m1 v.nf).bind fun x m2 => (optR (seqI x) m2).bind fun ys m3 => (cItemsS bs es env m3).bind fun xs m4 => .ok (ys ++ xs) m4
  | _, _, _, _ => .fail
def cTupS (bs : List Bool) (es : List P) : EV := fun env m => (cItemsS bs es env m).bind fun xs m1 => if xs.length ≤ lim then .ok (.d (.tuple xs)) m1 else .fail
def cLstS (bs : List Bool) (es : List P) : EV := fun env m => (cItemsS bs es env m).bind fun xs m1 => if xs.length ≤ lim then .ok (.fr xs) m1 else .fail
/-! dicts: keys are texts and numbers -/
def keyB : PyData → Bool
  | .int _ => true
  | .str _ => true
  | _ => false
def dLook : List (PyData × PyData) → PyData → Option PyData
  | [], _ => none
  | (k, v) :: r, x => if beqD k x = true then some v else dLook r x
def dPut (kvs : List (PyData × PyData)) (k v : PyData) : List (PyData × PyData) :=
  if (kvs.any fun p => beqD p.1 k) = true then kvs.map (fun p => if beqD p.1 k = true then (p.1, v) else p) else kvs ++ [(k, v)]
/-- some of a list, by their places -/
def pick {α : Type} (is : List Nat) (l : List α) : List α := is.filterMap fun i => l[i]?
def cCallK (call : Call) (f : Nat) (is : List Nat) (es : List P) : EV := fun env m => (cArgs es env m).bind fun vs m1 => call f (pick is vs) m1
def cCall (call : Call) (f : Nat) (es : List P) : EV := fun env m => (cArgs es env m).bind fun vs m1 => call f vs m1
/-- behind a def: its own cells go -/
def leave (n : Nat) (v : Val) (m : Mem) : Res Val := match v with
  | .mr k => if k < n then .ok (.mr k) (m.take n) else (match m[k]? with
    | some c => .ok (if c.fz = true then .d (.list c.xs) else .fr c.xs) (m.take n)
    | none => .fail)
  | v => .ok v (m.take n)
def cCallC (call : Call) (f : Nat) (es : List P) : EV := fun env m => (cArgs es env m).bind fun vs m1 => (call f vs m1).bind fun v m2 => leave m.length v m2
def cCell (e : P) : EV := fun env m => (e.v env m).bind mkCell
/-- one operand, by what it reads -/
def c1 (a : P) (f : PyData → Mem → Res Val) : EV := fun env m => (a.v env m).bind fun va m1 => (rdR m1 va.nf).bind f
/-- two operands, read when both are there -/
def c2 (a b : P) (f : PyData → PyData → Mem → Res Val) : EV := fun env m => (a.v env m).bind fun va m1 => (b.v env m1).bind fun vb m2 =>
  (rdR m2 va.nf).bind fun x m3 => (rdR m3 vb.nf).bind fun y m4 => f x y m4
def intR (x : PyData) (m : Mem) : Res Int := match x with
  | .int i => .ok i m
  | _ => .fail
def cSl3 (a b c : P) : EV := fun env m => (a.v env m).bind fun va m1 => (b.v env m1).bind fun vb m2 => (rdR m2 vb.nf).bind fun y m3 => (intR y m3).bind fun l m4 =>
  (c.v env m4).bind fun vc m5 => (rdR m5 va.nf).bind fun x m6 => (rdR m6 vc.nf).bind fun z m7 => (intR z m7).bind fun h m8 => optR (slc x (some l) (some h)) m8
def cmpR (o : Cop) (x y : PyData) (m : Mem) : Res Val := (optR (cmp o x y) m).bind boolR
def cChain (o o' : Cop) (a b c : P) : EV := fun env m => (a.v env m).bind fun va m1 => (b.v env m1).bind fun vb m2 =>
  (rdR m2 va.nf).bind fun x m3 => (rdR m3 vb.nf).bind fun y m4 => (optR (cmp o x y) m4).bind fun t m5 =>
    if t = true then (c.v env m5).bind fun vc m6 => (rdR m6 vb.nf).bind fun y' m7 => (rdR m7 vc.nf).bind fun z m8 => cmpR o' y' z m8
    else boolR false m5
def cAnd : List P → EV
  | [], _, _ => .fail
  | [e], env, m => e.v env m
  | e :: e' :: es, env, m => (e.v env m).bind fun v m1 => (truR v m1).bind fun t m2 => if t = true then cAnd (e' :: es) env m2 else .ok v m2
def cOr : List P → EV
  | [], _, _ => .fail
  | [e], env, m => e.v env m
  | e :: e' :: es, env, m => (e.v env m).bind fun v m1 => (truR v m1).bind fun t m2 => if t = true then .ok v m2 else cOr (e' :: es) env m2
def tAnd : List P → ET
  | [], _, _ => .fail
  | [e], env, m => e.t env m
  | e :: e' :: es, env, m => (e.t env m).bind fun t m1 => if t = true then tAnd (e' :: es) env m1 else .ok false m1
def tOr : List P → ET
  | [], _, _ => .fail
  | [e], env, m => e.t env m
  | e :: e' :: es, env, m => (e.t env m).bind fun t m1 => if t = true then .ok true m1 else tOr (e' :: es) env m1
/-- all tests of a clause -/
def tAll : List P → ET
  | [], _, m => .ok true m
  | e :: es, env, m => (e.t env m).bind fun t m1 => if t = true then tAll es env m1 else .ok false m1
def cPop (i : Nat) (e : P) : EV := fun env m => match getV env i with
  | some (.mr k) => (e.v env m).bind fun ve m1 => (rdR m1 ve.nf).bind fun j m2 => match j, m2[k]? with
    | .int j, some c => if c.fz = false ∧ 0 ≤ j ∧ j < c.xs.length then
        match c.xs[j.toNat]? with
        | some y => .ok (.d y) (m2.set k ⟨false, c.xs.eraseIdx j.toNat⟩)
        | none => .fail
      else .fail
    | _, _ => .fail
  | _ => .fail
/-- a list comprehension over its items -/
def lcLoop (t : Tg) (tests : List P) (elt : P) (gs : List Nat) (env : Env) : List PyData → Mem → Res (List PyData)
  | [], m => .ok [] m
  | x :: xs, m => match asg t x env with
    | none => .fail
    | some env' => (tAll tests env' m).bind fun b m1 =>
      if b = true then (elt.v env' m1).bind fun v m2 => (frz v m2).bind fun y m3 =>
        if same gs m m3 = true then (lcLoop t tests elt gs env xs m3).bind fun ys m4 => .ok (y :: ys) m4 else .fail
      else if same gs m m1 = true then lcLoop t tests elt gs env xs m1 else .fail
/-- what is walked: its items, the cells that it leans on -/
def srcR (k : Sk) (src : List P) (env : Env) (m : Mem) : Res (List PyData × List Nat) :=
  (cArgs src env m).bind fun vs m1 => (optR (lookAll m1 vs) m1).bind fun xs m2 => (optR (walk k xs) m2).bind fun is m3 => .ok (is, guards vs) m3
def cLc (own : List Nat) (t : Tg) (k : Sk) (src tests : List P) (elt : P) : EV := fun env m =>
  (srcR k src env m).bind fun p m1 => (lcLoop t tests elt p.2 (wipe env own) p.1 m1).bind fun ys m2 => .ok (.fr ys) m2
/-- two clauses -/
def lc2Loop (t : Tg) (tests : List P) (inner : Nat → Env → Mem → Res (List PyData)) (gs : List Nat) (env : Env) : Nat → List PyData → Mem → Res (List PyData)
  | _, [], m => .ok [] m
  | n, x :: xs, m => match asg t x env with
    | none => .fail
    | some env' => (tAll tests env' m).bind fun b m1 =>
      if b = true then (inner n env' m1).bind fun ys m3 =>
        if same gs m m3 = true then (lc2Loop t tests inner gs env (n + ys.length) xs m3).bind fun zs m4 => .ok (ys ++ zs) m4 else .fail
      else if same gs m m1 = true then lc2Loop t tests inner gs env n xs m1 else .fail
def lcIn (own1 : List Nat) (t1 : Tg) (k1 : Sk) (src1 tests1 : List P) (elt : P) (n : Nat) (env : Env) (m : Mem) : Res (List PyData) :=
  (srcR k1 src1 env m).bind fun p m1 => if n + p.1.length ≤ lim then lcLoop t1 tests1 elt p.2 (wipe env own1) p.1 m1 else .fail
def cLc2 (own own1 : List Nat) (t : Tg) (k : Sk) (src tests : List P) (t1 : Tg) (k1 : Sk) (src1 tests1 : List P) (elt : P) : EV := fun env m =>
  (srcR k src env m).bind fun p m1 => (lc2Loop t tests (lcIn own1 t1 k1 src1 tests1 elt) p.2 (wipe env own) 0 p.1 m1).bind fun ys m2 => .ok (.fr ys) m2
/-- a dict comprehension over its items -/
def dcLoop (t : Tg) (tests : List P) (ke ve : P) (gs : List Nat) (env : Env) : List PyData → List (PyData × PyData) → Mem → Res (List (PyData × PyData))
  | [], acc, m => .ok acc m
  | x :: xs, acc, m => match asg t x env with
    | none => .fail
    | some env' => (tAll tests env' m).bind fun b m1 =>
      if b = true then (ke.v env' m1).bind fun vk m2 => (frz vk m2).bind fun y m3 => (ve.v env' m3).bind fun vv m4 => (frz vv m4).bind fun z m5 =>
        if keyB y = true ∧ same gs m m5 = true then dcLoop t tests ke ve gs env xs (dPut acc y z) m5 else .fail
      else if same gs m m1 = true then dcLoop t tests ke ve gs env xs acc m1 else .fail
def cDc (own : List Nat) (t : Tg) (k : Sk) (src tests : List P) (ke ve : P) : EV := fun env m =>
  (srcR k src env m).bind fun p m1 => (dcLoop t tests ke ve p.2 (wipe env own) p.1 [] m1).bind fun ys m2 => .ok (.dv ys) m2
/-- dict(pairs) -/
def pairsD : List PyData → List (PyData × PyData) → Option (List (PyData × PyData))
  | [], acc => some acc
  | .tuple [k, v] :: r, acc => if keyB k = true then pairsD r (dPut acc k v) else none
  | _, _ => none
def cDmk (e : P) : EV := fun env m => (e.v env m).bind fun v m1 => (rdR m1 v.nf).bind fun x m2 => match x with
  | .list xs => (optR (pairsD xs []) m2).bind fun kvs m3 => .ok (.dv kvs) m3
  | _ => .fail
def dictR (v : Val) (m : Mem) : Res (List (PyData × PyData)) := match v with
  | .dv kvs => .ok kvs m
  | _ => .fail
def keyR (x : PyData) (m : Mem) : Res PyData := if keyB x = true then .ok x m else .fail
def cDget (d k x : P) : EV := fun env m => (d.v env m).bind fun vd m1 => (dictR vd m1).bind fun kvs m2 => (k.v env m2).bind fun vk m3 => (x.v env m3).bind fun vx m4 =>
  (rdR m4 vk.nf).bind fun y m5 => (keyR y m5).bind fun y m6 => (frz vx m6).bind fun z m7 => .ok (.d ((dLook kvs y).getD z)) m7
def cDat (d k : P) : EV := fun env m => (d.v env m).bind fun vd m1 => (dictR vd m1).bind fun kvs m2 => (k.v env m2).bind fun vk m3 => (rdR m3 vk.nf).bind fun y m4 => (keyR y m4).bind fun y m5 => (optR (dLook kvs y) m5).bind fun z m6 => .ok (.d z) m6
def cDin (neg : Bool) (k d : P) : EV := fun env m => (k.v env m).bind fun vk m1 => (d.v env m1).bind fun vd m2 => (rdR m2 vk.nf).bind fun y m3 => (keyR y m3).bind fun y m4 => (dictR vd m4).bind fun kvs m5 => boolR (xor neg (dLook kvs y).isSome) m5
/-- the first place -/
def lFind (x : PyData) : Nat → List PyData → Option Nat
  | _, [] => none
  | i, y :: r => if PyData.eqv y x = true then some i else lFind x (i + 1) r
def cLidx (i : Nat) (e : P) : EV := fun env m => match getV env i with
  | some (.mr k) => (e.v env m).bind fun ve m1 => (rdR m1 ve.nf).bind fun y m2 => match m2[k]? with
    | some c => if y.depth ≤ 64 ∧ (PyData.list c.xs).depth ≤ 64 then (optR (lFind y 0 c.xs) m2).bind fun j m3 => .ok (.d (.int j)) m3 else .fail
    | none => .fail
  | _ => .fail
def cBi (b : Bi) (es : List P) : EV := fun env m => (cArgs es env m).bind fun vs m1 => (optR (lookAll m1 vs) m1).bind fun xs m2 => optR (bi b xs) m2
section
variable (call : Call)
mutual
def sem : E → P
  | .bad => ofV fun _ _ => .fail
  | .var i => ofV fun env m => optR (getV env i) m
  | .cst c => ofV fun _ m => .ok (.d c) m
  | .glo c => ofV fun _ m => .ok (.d c) m
  | .tup es => ofV (cTup (sems es))
  | .lst es => ofV (cLst (sems es))
  | .call f es => ofV (cCall call f (sems es))
  | .callk f is es => ofV (cCallK call f is (sems es))
  | .callc f es => ofV (cCallC call f (sems es))
  | .cell e => ⟨cCell (sem e), fun _ _ => .fail⟩
  | .op o a b => ofV (c2 (sem a) (sem b) fun x y m => optR (bop o x y) m)
  | .neg a => ofV (c1 (sem a) fun x m => match x with
      | .int i => .ok (.d (.int (-i))) m
      | _ => .fail)
  | .cmp o a b => ofV (c2 (sem a) (sem b) (cmpR o))
  | .chain o o' a b c => ofV (cChain o o' (sem a) (sem b) (sem c))
  | .isN a => ofV (c1 (sem a) fun x m => boolR (isNone x) m)
  | .isnN a => ofV (c1 (sem a) fun x m => boolR (!isNone x) m)
  | .band es => ⟨cAnd (sems es), tAnd (sems es)⟩
  | .bor es => ⟨cOr (sems es), tOr (sems es)⟩
  | .not a => ⟨fun env m => ((sem a).v env m).bind fun v m1 => (truR v m1).bind fun t m2 => boolR (!t) m2, fun env m => ((sem a).t env m).bind fun t m1 => .ok (!t) m1⟩
  | .ite c a b => ⟨fun env m => ((sem c).t env m).bind fun t m1 => if t = true then (sem a).v env m1 else (sem b).v env m1,
      fun env m => ((sem c).t env m).bind fun t m1 => if t = true then (sem a).t env m1 else (sem b).t env m1⟩
  | .idx a i => ofV (c2 (sem a) (sem i) fun x y m => (optR (idx x y) m).bind fun z m1 => .ok (.d z) m1)
  | .sl a => ofV (c1 (sem a) fun x m => optR (slc x none none) m)
  | .slL a lo => ofV (c2 (sem a) (sem lo) fun x l m => match l with
      | .int l => optR (slc x (some l) none) m
      | _ => .fail)
  | .slU a hi => ofV (c2 (sem a) (sem hi) fun x h m => match h with
      | .int h => optR (slc x none (some h)) m
      | _ => .fail)
  | .slLU a lo hi => ofV (cSl3 (sem a) (sem lo) (sem hi))
  | .rev a => ofV (c1 (sem a) fun x m => optR (revd x) m)
  | .bi b es => ofV (cBi b (sems es))
  | .isi a cs => ofV (c1 (sem a) fun x m => boolR (cs.any (isi x)) m)
  | .pop i e => ofV (cPop i (sem e))
  | .lc own t k src tests elt => ofV (cLc own t k (sems src) (sems tests) (sem elt))
  | .lc2 own own1 t k src tests t1 k1 src1 tests1 elt => ofV (cLc2 own own1 t k (sems src) (sems tests) t1 k1 (sems src1) (sems tests1) (sem elt))
  | .tupS bs es => ofV (cTupS bs (sems es))
  | .lstS bs es => ofV (cLstS bs (sems es))
  | .dc own t k src tests ke ve => ⟨cDc own t k (sems src) (sems tests) (sem ke) (sem ve), fun _ _ => .fail⟩
  | .dmk e => ⟨cDmk (sem e), fun _ _ => .fail⟩
  | .dget d k x => ofV (cDget (sem d) (sem k) (sem x))
  | .dat d k => ofV (cDat (sem d) (sem k))
  | .din neg k d => ofV (cDin neg (sem k) (sem d))
  | .lidx i e => ofV (cLidx i (sem e))
def sems : List E → List P
  | [] => []
  | e :: es => sem e :: sems es
end
end

/-! statements -/
/-- what a clause puts into its list: a constant, isinstance(error, LookupError or else ValueError), error's own thing -/
inductive HI where
  | cst (c : PyData) | isi (lk : Bool) (b : Bool) | fld
/-- except C as n: i = [..], or return [..] -/
structure Hd where
  n : Nat
  cls : Nat
  nm : Nat
  ret : Bool
  dst : Nat
  items : List HI
/-- a statement's call, which may raise -/
inductive XE where
  | call (f : Nat) (es : List E) | ite (c : E) (a b : XE)
/-- the body of a try -/
inductive TB where
  | set (i : Nat) (cell : Bool) (e : XE)
  | ret (e : XE)
  | iff (c : E) (a b : TB)
inductive S where
  | bad
  | setx (i : Nat) (cell : Bool) (e : XE)
  | exprx (e : XE)
  | retx (e : XE)
  | raise (c : Nat)
  | raise1 (c : Nat) (e : E)
  | tryx (b : TB) (hs : List Hd)
  | expr (e : E)
  | set (i : Nat) (cell : Bool) (e : E)
  | setT (t : Tg) (e : E)
  | par (is : List (Nat × Bool)) (es : List E)
  | app (i : Nat) (e : E)
  | rem (i : Nat) (e : E)
  | ext (i : Nat) (e : E)
  | put (i : Nat) (j e : E)
  | put2 (i1 : Nat) (j1 : E) (i2 : Nat) (j2 : E) (es : List E)
  | ret (e : E)
  | retN
  | iff (c : E) (a b : List S)
  | for (t : Tg) (k : Sk) (src : List E) (body : List S)
  | while (c : E) (body : List S)
  | pass
  | brk
  | cnt
inductive Flow where
  | next (env : Env) | ret (v : Val) | brk (env : Env) | cnt (env : Env)
abbrev EX := Env → Mem → Res Flow
def xNext : EX := fun env m => .ok (.next env) m
def xSeq (a b : EX) : EX := fun env m => (a env m).bind fun f m1 => match f with
  | .next env' => b env' m1
  | f => .ok f m1
/-- the value that a name gets -/
def stored (cell : Bool) (v : Val) (m : Mem) : Res Val := if cell = true then mkCell v m else .ok v.nf m
def setIn (env : Env) (i : Nat) (v : Val) (m : Mem) : Res Flow := if i < env.length then .ok (.next (setV env i v)) m else .fail
def xSet (i : Nat) (cell : Bool) (e : P) : EX := fun env m => (e.v env m).noX.bind fun v m1 => (stored cell v m1).bind fun v' m2 => setIn env i v' m2
def xSetT (t : Tg) (e : P) : EX := fun env m => (e.v env m).noX.bind fun v m1 => match v.nf with
  | .d x => (match asg t x env with
    | some env' => .ok (.next env') m1
    | none => .fail)
  | _ => .fail
def parV : List (Nat × Bool) → List P → Env → Mem → Res (List Val)
  | [], [], _, m => .ok [] m
  | (_, c) :: is, e :: es, env, m => (e.v env m).bind fun v m1 => (stored c v m1).bind fun v' m2 => (parV is es env m2).bind fun vs m3 => .ok (v' :: vs) m3
  | _, _, _, _ => .fail
def setAll : List (Nat × Bool) → List Val → Env → Mem → Res Flow
  | [], [], env, m => .ok (.next env) m
  | (i, _) :: is, v :: vs, env, m => if i < env.length then setAll is vs (setV env i v) m else .fail
  | _, _, _, _ => .fail
def xPar (is : List (Nat × Bool)) (es : List P) : EX := fun env m => (parV is es env m).noX.bind fun vs m1 => setAll is vs env m1
/-- a change of the cell of a name -/
def upCell (env : Env) (i : Nat) (f : List PyData → Option (List PyData)) (m : Mem) : Res Flow := match getV env i with
  | some (.mr k) => match m[k]? with
    | some c => if c.fz = false then (match f c.xs with
        | some ys => .ok (.next env) (m.set k ⟨false, ys⟩)
        | none => .fail) else .fail
    | none => .fail
  | _ => .fail
/-- the name holds a cell -/
def onCell (env : Env) (i : Nat) (r : Res Flow) : Res Flow := match getV env i with
  | some (.mr _) => r
  | _ => .fail
def xApp (i : Nat) (e : P) : EX := fun env m => onCell env i ((e.v env m).noX.bind fun v m1 => (frz v m1).bind fun x m2 => upCell env i (fun xs => if xs.length < lim then some (xs ++ [x]) else none) m2)
def remD (x : PyData) (xs : List PyData) : Option (List PyData) := if x.depth ≤ 64 ∧ (PyData.list xs).depth ≤ 64 then (lFind x 0 xs).map fun j => xs.eraseIdx j else none
def xRem (i : Nat) (e : P) : EX := fun env m => onCell env i ((e.v env m).noX.bind fun v m1 => (rdR m1 v.nf).bind fun x m2 => upCell env i (remD x) m2)
def extD (x : PyData) (xs : List PyData) : Option (List PyData) := match x with
  | .list ys => if xs.length + ys.length ≤ lim then some (xs ++ ys) else none
  | _ => none
def xExt (i : Nat) (e : P) : EX := fun env m => onCell env i ((e.v env m).noX.bind fun v m1 => (rdR m1 v.nf).bind fun x m2 => upCell env i (extD x) m2)
def putD (y x : PyData) (xs : List PyData) : Option (List PyData) := match y with
  | .int n => (L2.ixN xs.length n).map fun k => xs.set k x
  | _ => none
def xPut (i : Nat) (j e : P) : EX := fun env m => (e.v env m).noX.bind fun v m1 => (frz v m1).bind fun x m2 => onCell env i ((j.v env m2).noX.bind fun vj m3 => (rdR m3 vj.nf).bind fun y m4 => upCell env i (putD y x) m4)
def putX (i : Nat) (j : P) (x : PyData) : EX := fun env m => onCell env i ((j.v env m).noX.bind fun vj m3 => (rdR m3 vj.nf).bind fun y m4 => upCell env i (putD y x) m4)
def xPut2 (i1 : Nat) (j1 : P) (i2 : Nat) (j2 : P) (es : List P) : EX := fun env m => (cItems es env m).noX.bind fun xs m1 => match xs with
  | [x, y] => (putX i1 j1 x env m1).bind fun _ m2 => putX i2 j2 y env m2
  | _ => .fail
def xRet (e : P) : EX := fun env m => (e.v env m).noX.bind fun v m1 => .ok (.ret v) m1
def xIf (c : P) (a b : EX) : EX := fun env m => (c.t env m).noX.bind fun t m1 => if t = true then a env m1 else b env m1
def forLoop (t : Tg) (body : EX) (gs : List Nat) : List PyData → EX
  | [], env, m => .ok (.next env) m
  | x :: xs, env, m => match asg t x env with
    | none => .fail
    | some env' => (body env' m).bind fun f m1 => match f with
      | .next e2 => if same gs m m1 = true then forLoop t body gs xs e2 m1 else .fail
      | .cnt e2 => if same gs m m1 = true then forLoop t body gs xs e2 m1 else .fail
      | .brk e2 => .ok (.next e2) m1
      | .ret v => .ok (.ret v) m1
def xFor (t : Tg) (k : Sk) (src : List P) (body : EX) : EX := fun env m => (srcR k src env m).noX.bind fun p m1 => forLoop t body p.2 p.1 env m1
def whileLoop (c : P) (body : EX) : Nat → EX
  | 0, _, _ => .fail
  | n + 1, env, m => (c.t env m).noX.bind fun b m1 => if b = true then (body env m1).bind fun f m2 => (match f with
      | .next e2 => whileLoop c body n e2 m2
      | .cnt e2 => whileLoop c body n e2 m2
      | .brk e2 => .ok (.next e2) m2
      | .ret v => .ok (.ret v) m2)
    else .ok (.next env) m1
section
variable (call : Call)
/-- the value of a statement's call, which may raise -/
def xv : XE → EV
  | .call f es => fun env m => (cArgs (sems call es) env m).noX.bind fun vs m1 => call f vs m1
  | .ite c a b => fun env m => ((sem call c).t env m).noX.bind fun t m1 => if t = true then xv a env m1 else xv b env m1
def xSetV (i : Nat) (cell : Bool) (v : EV) : EX := fun env m => (v env m).bind fun v m1 => (stored cell v m1).bind fun v' m2 => setIn env i v' m2
def hiV (x : Exn) : HI → Option PyData
  | .cst c => some c
  | .isi _ b => some (.bool b)
  | .fld => x.vals.head?
def hisV (x : Exn) : List HI → Option (List PyData)
  | [] => some []
  | h :: r => match hiV x h, hisV x r with
    | some y, some ys => some (y :: ys)
    | _, _ => none
def tbX : TB → EX
  | .set i c e => xSetV i c (xv call e)
  | .ret e => fun env m => (xv call e env m).bind fun v m1 => .ok (.ret v) m1
  | .iff c a b => fun env m => ((sem call c).t env m).noX.bind fun t m1 => if t = true then tbX a env m1 else tbX b env m1
/-- the clauses -/
def hdsX : List Hd → Exn → Env → Mem → Res Flow
  | [], x, _, m => .exc x m
  | h :: r, x, env, m => if ¬ x.cls < h.n then .fail else if x.cls = h.cls then (match hisV x h.items with
      | some ys => if h.ret = true then (if h.nm < env.length then .ok (.ret (.fr ys)) m else .fail) else if h.nm < env.length ∧ h.dst < env.length then .ok (.next ((setV (env.set h.nm none) h.dst (.d (.list ys))).set h.nm none)) m else .fail
      | none => .fail) else hdsX r x env m
def xTry (b : EX) (hs : List Hd) : EX := fun env m => match b env m with
  | .ok f m1 => .ok f m1
  | .exc x m1 => hdsX hs x env m1
  | .fail => .fail
end
section
variable (call : Call) (wf : Nat)
mutual
def exS : S → EX
  | .bad => fun _ _ => .fail
  | .expr e => fun env m => ((sem call e).v env m).noX.bind fun _ m1 => .ok (.next env) m1
  | .setx i c e => xSetV i c (xv call e)
  | .exprx e => fun env m => (xv call e env m).bind fun _ m1 => .ok (.next env) m1
  | .retx e => fun env m => (xv call e env m).bind fun v m1 => .ok (.ret v) m1
  | .raise c => fun _ m => .exc ⟨c, []⟩ m
  | .raise1 c e => fun env m => ((sem call e).v env m).noX.bind fun v m1 => (frz v m1).bind fun x m2 => .exc ⟨c, [x]⟩ m2
  | .tryx b hs => xTry (tbX call b) hs
  | .set i c e => xSet i c (sem call e)
  | .setT t e => xSetT t (sem call e)
  | .par is es => xPar is (sems call es)
  | .app i e => xApp i (sem call e)
  | .rem i e => xRem i (sem call e)
  | .ext i e => xExt i (sem call e)
  | .put i j e => xPut i (sem call j) (sem call e)
  | .put2 i1 j1 i2 j2 es => xPut2 i1 (sem call j1) i2 (sem call j2) (sems call es)
  | .ret e => xRet (sem call e)
  | .retN => fun _ m => .ok (.ret (.d .none)) m
  | .iff c a b => xIf (sem call c) (exB a) (exB b)
  | .for t k src body => xFor t k (sems call src) (exB body)
  | .while c body => whileLoop (sem call c) (exB body) wf
  | .pass => xNext
  | .brk => fun env m => .ok (.brk env) m
  | .cnt => fun env m => .ok (.cnt env) m
def exB : List S → EX
  | [] => xNext
  | s :: r => xSeq (exS s) (exB r)
end
end
/-- a def: how many names it has, how many of them are parameters, its body -/
structure Fn where
  n : Nat
  ps : Nat
  body : List S
def run (T : List Fn) (wf : Nat) : Nat → Call
  | 0, _, _, _ => .fail
  | n + 1, f, vs, m => match T[f]? with
    | none => .fail
    | some F => if vs.length = F.ps ∧ F.ps ≤ F.n then
        ((exB (run T wf n) wf F.body (vs.map some ++ List.replicate (F.n - F.ps) none) m).cutX m.length).bind fun fl m1 => (match fl with
          | .ret v => leave m.length v m1
          | .next _ => .ok (.d .none) (m1.take m.length)
          | _ => .fail)
      else .fail
end Ra


set_option Elab.async false
set_option linter.all false
set_option autoImplicit false
set_option maxRecDepth 100000
/-! the evaluator's data in the layer's heap -/
namespace Ra
open PySem PySem.Spec PyProof.Rows L2

/-- a list that is fixed: in F, or locked -/
def Rl (F : Addr → Prop) (H : Hp) (a : Addr) (xs : List V) : Prop := (F a ∧ H a = some (.lst xs)) ∨ ∃ o, H a = some (.frz o (.lst xs))
theorem Rl.rd {F : Addr → Prop} {H : Hp} {a : Addr} {xs : List V} (h : Rl F H a xs) : Rd H a (.lst xs) := by
  rcases h with ⟨_, h⟩ | h
  · exact .inl h
  · exact .inr h
mutual
inductive Rp (K : PySem.W.Frag) (F : Addr → Prop) (H : Hp) : V → PyData → Prop
  | non : Rp K F H .non .none
  | bl (b : Bool) : Rp K F H (.bl b) (.bool b)
  | int (i : Int) : Rp K F H (.int i) (.int i)
  | str (x : Str) : sOk x = true → Rp K F H (.str x) (.str x)
  | lst {a : Addr} {xs : List V} {ds : List PyData} : Rl F H a xs → RpAll K F H xs ds → Rp K F H (.ref a) (.list ds)
  | tup {a : Addr} {xs : List V} {ds : List PyData} : SqT K H a xs → RpAll K F H xs ds → Rp K F H (.ref a) (.tuple ds)
inductive RpAll (K : PySem.W.Frag) (F : Addr → Prop) (H : Hp) : List V → List PyData → Prop
  | nil : RpAll K F H [] []
  | cons {v : V} {vs : List V} {d : PyData} {ds : List PyData} : Rp K F H v d → RpAll K F H vs ds → RpAll K F H (v :: vs) (d :: ds)
end
def keyD : Key → PyData
  | .inl n => .int n
  | .inr z => .str z
/-- a dict's rows -/
inductive RpK (K : PySem.W.Frag) (F : Addr → Prop) (H : Hp) : List (Key × V) → List (PyData × PyData) → Prop
  | nil : RpK K F H [] []
  | cons {k : Key} {v : V} {ks : List (Key × V)} {d : PyData} {ds : List (PyData × PyData)} : Rp K F H v d → RpK K F H ks ds → RpK K F H ((k, v) :: ks) ((keyD k, d) :: ds)
/-- what is fixed, where the cells stand -/
structure G where
  F : Addr → Prop
  ad : List Addr
  /-- what others hold: left alone -/
  pr : Addr → Prop
structure Ext (g : G) (H : Hp) (g' : G) (H' : Hp) : Prop where
  sub : ∀ a, g.F a → g'.F a
  fix : ∀ a, g.F a → H' a = H a
  tup : ∀ a xs, H a = some (.tup xs) → H' a = some (.tup xs)
  frz : ∀ a o u, H a = some (.frz o u) → H' a = some (.frz o u)
  ads : ∃ more, g'.ad = g.ad ++ more
  pre : g'.pr = g.pr
  keep : ∀ a, g.pr a → H' a = H a
structure SimM (K : PySem.W.Frag) (m : Mem) (g : G) (H : Hp) : Prop where
  fs : ∀ a, g.F a → ∃ o, H a = some o
  len : g.ad.length = m.length
  nd : g.ad.Nodup
  cell : ∀ (k : Nat) (c : Cell) (a : Addr), m[k]? = some c → g.ad[k]? = some a → ∃ vs, H a = some (.lst vs) ∧ RpAll K g.F H vs c.xs ∧ (c.fz = true → g.F a) ∧ (c.fz = false → ¬ g.F a)
  sz : ∀ a xs, (H a = some (.lst xs) ∨ H a = some (.tup xs) ∨ (∃ o, H a = some (.frz o (.lst xs))) ∨ ∃ o, H a = some (.frz o (.tup xs))) → xs.length ≤ sizeLine
  prs : ∀ a, g.pr a → ∃ o, H a = some o
  prF : ∀ a, g.pr a → ¬ g.F a
  prA : ∀ a, g.pr a → a ∉ g.ad
def RpV (K : PySem.W.Frag) (g : G) (H : Hp) (x : V) : Val → Prop
  | .d d => Rp K g.F H x d
  | .fr xs => ∃ a vs, x = .ref a ∧ H a = some (.lst vs) ∧ RpAll K g.F H vs xs ∧ ¬ g.F a ∧ a ∉ g.ad ∧ ¬ g.pr a
  | .mr k => ∃ a, x = .ref a ∧ g.ad[k]? = some a
  | .dv kvs => ∃ a ks, x = .ref a ∧ g.F a ∧ H a = some (.dK ks) ∧ RpK K g.F H ks kvs
/-- readable now -/
def Rr (K : PySem.W.Frag) (F : Addr → Prop) (H : Hp) (x : V) : PyData → Prop
  | .list ds => ∃ a xs, x = .ref a ∧ Rd H a (.lst xs) ∧ RpAll K F H xs ds
  | d => Rp K F H x d

section
variable {K : PySem.W.Frag} {F F' : Addr → Prop} {H H' H2 : Hp} {g g' g2 : G} {m m' : Mem} {x : V} {d : PyData} {v : Val}
theorem Ext.refl (g : G) (H : Hp) : Ext g H g H := ⟨fun _ h => h, fun _ _ => rfl, fun _ _ h => h, fun _ _ _ h => h, ⟨[], by simp⟩, rfl, fun _ _ => rfl⟩
theorem Ext.trans (a : Ext g H g' H') (b : Ext g' H' g2 H2) : Ext g H g2 H2 :=
  ⟨fun c h => b.sub c (a.sub c h), fun c h => (b.fix c (a.sub c h)).trans (a.fix c h), fun c xs h => b.tup c xs (a.tup c xs h), fun c o u h => b.frz c o u (a.frz c o u h), by
    obtain ⟨p, e⟩ := a.ads
    obtain ⟨q, e'⟩ := b.ads
    exact ⟨p ++ q, by rw [e', e, List.append_assoc]⟩, b.pre.trans a.pre, fun c h => (b.keep c (by rw [a.pre]; exact h)).trans (a.keep c h)⟩
theorem Ext.at (e : Ext g H g' H') {k : Nat} {a : Addr} (h : g.ad[k]? = some a) : g'.ad[k]? = some a := by
  obtain ⟨p, q⟩ := e.ads
  rw [q, List.getElem?_append_left (by
    have := (List.getElem?_eq_some_iff.mp h).1
    exact this)]
  exact h
theorem SqT.ext {a : Addr} {xs : List V} (e : Ext g H g' H') (h : SqT K H a xs) : SqT K H' a xs := by
  rcases h with (h | ⟨o, h⟩) | h
  · exact .inl (.inl (e.tup _ _ h))
  · exact .inl (.inr ⟨o, e.frz _ _ _ h⟩)
  · exact .inr h
theorem Rl.ext {a : Addr} {xs : List V} (e : Ext g H g' H') (h : Rl g.F H a xs) : Rl g'.F H' a xs := by
  rcases h with ⟨f, h⟩ | ⟨o, h⟩
  · exact .inl ⟨e.sub _ f, (e.fix _ f).trans h⟩
  · exact .inr ⟨o, e.frz _ _ _ h⟩
mutual
theorem Rp.ext (e : Ext g H g' H') : ∀ (d : PyData) {x : V}, Rp K g.F H x d → Rp K g'.F H' x d
  | .none, _, h => by cases h; exact .non
  | .bool b, _, h => by cases h; exact .bl b
  | .int i, _, h => by cases h; exact .int i
  | .str s, _, h => by
    cases h with
    | str _ h => exact .str s h
  | .list ds, _, h => by
    cases h with
    | lst a b => exact .lst (Rl.ext e a) (RpAll.ext e ds b)
  | .tuple ds, _, h => by
    cases h with
    | tup a b => exact .tup (SqT.ext e a) (RpAll.ext e ds b)
  | .dict _, _, h => by cases h
theorem RpAll.ext (e : Ext g H g' H') : ∀ (ds : List PyData) {xs : List V}, RpAll K g.F H xs ds → RpAll K g'.F H' xs ds
  | [], _, h => by cases h; exact .nil
  | d :: ds, _, h => by
    cases h with
    | cons a b => exact .cons (Rp.ext e d a) (RpAll.ext e ds b)
end
theorem RpK.ext (e : Ext g H g' H') : ∀ {ks : List (Key × V)} {ds : List (PyData × PyData)}, RpK K g.F H ks ds → RpK K g'.F H' ks ds
  | _, _, .nil => .nil
  | _, _, .cons a b => .cons (Rp.ext e _ a) (RpK.ext e b)
theorem RpV.ext (e : Ext g H g' H') (hf : ∀ xs, v ≠ .fr xs) (h : RpV K g H x v) : RpV K g' H' x v := by
  cases v with
  | d d => exact Rp.ext e d h
  | fr xs => exact absurd rfl (hf xs)
  | mr k =>
    obtain ⟨a, rfl, q⟩ := h
    exact ⟨a, rfl, e.at q⟩
  | dv kvs =>
    obtain ⟨a, ks, rfl, q, r, t⟩ := h
    exact ⟨a, ks, rfl, e.sub a q, (e.fix a q).trans r, RpK.ext e t⟩
theorem Rp.rr (h : Rp K F H x d) : Rr K F H x d := by
  cases h with
  | lst a b => exact ⟨_, _, rfl, a.rd, b⟩
  | non => exact .non
  | bl b => exact .bl b
  | int i => exact .int i
  | str i h => exact .str i h
  | tup a b => exact .tup a b
theorem RpAll.length : ∀ {xs : List V} {ds : List PyData}, RpAll K F H xs ds → xs.length = ds.length
  | _, _, .nil => rfl
  | _, _, .cons _ t => by rw [List.length_cons, List.length_cons, RpAll.length t]
theorem RpAll.get : ∀ {xs : List V} {ds : List PyData} {i : Nat} {d : PyData}, RpAll K F H xs ds → ds[i]? = some d → ∃ x, xs[i]? = some x ∧ Rp K F H x d
  | _, _, _, _, .nil, e => by simp at e
  | _, _, 0, _, .cons r _, e => by
    simp at e; subst e
    exact ⟨_, rfl, r⟩
  | _, _, i + 1, d, .cons _ t, e => by
    obtain ⟨u, h1, h2⟩ := RpAll.get (i := i) (d := d) t (by simpa using e)
    exact ⟨u, by simpa using h1, h2⟩
theorem RpAll.get' : ∀ {xs : List V} {ds : List PyData} {i : Nat} {x : V}, RpAll K F H xs ds → xs[i]? = some x → ∃ d, ds[i]? = some d ∧ Rp K F H x d
  | _, _, _, _, .nil, e => by simp at e
  | _, _, 0, _, .cons r _, e => by
    simp at e; subst e
    exact ⟨_, rfl, r⟩
  | _, _, i + 1, d, .cons _ t, e => by
    obtain ⟨u, h1, h2⟩ := RpAll.get' (i := i) t (by simpa using e)
    exact ⟨u, by simpa using h1, h2⟩
theorem RpAll.append : ∀ {xs ys : List V} {ds es : List PyData}, RpAll K F H xs ds → RpAll K F H ys es → RpAll K F H (xs ++ ys) (ds ++ es)
  | _, _, _, _, .nil, s => s
  | _, _, _, _, .cons r t, s => .cons r (RpAll.append t s)
theorem RpAll.drop : ∀ {xs : List V} {ds : List PyData} (n : Nat), RpAll K F H xs ds → RpAll K F H (xs.drop n) (ds.drop n)
  | _, _, 0, r => r
  | _, _, _ + 1, .nil => .nil
  | _, _, n + 1, .cons _ t => RpAll.drop n t
theorem RpAll.take : ∀ {xs : List V} {ds : List PyData} (n : Nat), RpAll K F H xs ds → RpAll K F H (xs.take n) (ds.take n)
  | _, _, 0, r => .nil
  | _, _, _ + 1, .nil => .nil
  | _, _, n + 1, .cons a t => .cons a (RpAll.take n t)
theorem RpAll.rev {xs : List V} {ds : List PyData} (h : RpAll K F H xs ds) : RpAll K F H xs.reverse ds.reverse := by
  have aux : ∀ {xs ys : List V} {ds es : List PyData}, RpAll K F H xs ds → RpAll K F H ys es → RpAll K F H (xs.reverseAux ys) (ds.reverseAux es) := by
    intro xs
    induction xs with
    | nil => intro ys ds es h s; cases h; exact s
    | cons x r ih =>
      intro ys ds es h s
      cases h with
      | cons a t =>
        have z := ih t (RpAll.cons a s)
        exact z
  exact aux h .nil
theorem RpAll.set : ∀ {xs : List V} {ds : List PyData} {x : V} {d : PyData} (n : Nat), RpAll K F H xs ds → Rp K F H x d → RpAll K F H (xs.set n x) (ds.set n d)
  | _, _, _, _, _, .nil, _ => .nil
  | _, _, _, _, 0, .cons _ t, r => .cons r t
  | _, _, _, _, n + 1, .cons a t, r => .cons a (RpAll.set n t r)
theorem RpAll.erase : ∀ {xs : List V} {ds : List PyData} (n : Nat), RpAll K F H xs ds → RpAll K F H (xs.eraseIdx n) (ds.eraseIdx n)
  | _, _, _, .nil => .nil
  | _, _, 0, .cons _ t => t
  | _, _, n + 1, .cons a t => .cons a (RpAll.erase n t)
theorem RpAll.rep {xs : List V} {ds : List PyData} (h : RpAll K F H xs ds) : ∀ n, RpAll K F H (List.replicate n xs).flatten (List.replicate n ds).flatten
  | 0 => .nil
  | n + 1 => by
    rw [List.replicate_succ, List.flatten_cons, List.replicate_succ, List.flatten_cons]
    exact h.append (RpAll.rep h n)
/-- what may be read of a cell or of data -/
theorem SimM.read (S : SimM K m g H) (hf : ∀ xs, v ≠ .fr xs) (h : RpV K g H x v) (e : rd m v = some d) : Rr K g.F H x d := by
  cases v with
  | d y =>
    have e' : y = d := Option.some.inj e
    subst e'
    exact Rp.rr h
  | fr xs => exact absurd rfl (hf xs)
  | mr k =>
    obtain ⟨a, rfl, q⟩ := h
    cases hm : m[k]? with
    | none => simp [rd, hm] at e
    | some c =>
      simp only [rd, hm, Option.map_some, Option.some.injEq] at e
      subst e
      obtain ⟨vs, h1, h2, _⟩ := S.cell k c a hm q
      exact ⟨a, vs, rfl, .inl h1, h2⟩
  | dv kvs => cases e
theorem nf_ne (v : Val) : ∀ xs, v.nf ≠ .fr xs := by
  intro xs; cases v <;> simp [Val.nf]
theorem nf_of (h : ∀ xs, v ≠ .fr xs) : v.nf = v := by
  cases v with
  | fr xs => exact absurd rfl (h xs)
  | d _ => rfl
  | mr _ => rfl
  | dv _ => rfl
/-- a new list is fixed -/
theorem SimM.fix (S : SimM K m g H) {a : Addr} {o : HO} (ha : H a = some o) (hn : a ∉ g.ad) (hp : ¬ g.pr a) :
    SimM K m ⟨fun b => b = a ∨ g.F b, g.ad, g.pr⟩ H ∧ Ext g H ⟨fun b => b = a ∨ g.F b, g.ad, g.pr⟩ H := by
  have e : Ext g H ⟨fun b => b = a ∨ g.F b, g.ad, g.pr⟩ H := ⟨fun _ h => .inr h, fun _ _ => rfl, fun _ _ h => h, fun _ _ _ h => h, ⟨[], by simp⟩, rfl, fun _ _ => rfl⟩
  refine ⟨⟨fun b h => ?_, S.len, S.nd, fun k c b h1 h2 => ?_, S.sz, S.prs, fun b h w => ?_, S.prA⟩, e⟩
  · rcases h with rfl | h
    · exact ⟨_, ha⟩
    · exact S.fs b h
  · obtain ⟨ws, p, q, r, t⟩ := S.cell k c b h1 h2
    refine ⟨ws, p, RpAll.ext e _ q, fun z => .inr (r z), fun z w => ?_⟩
    rcases w with rfl | w
    · exact hn (List.mem_of_getElem? h2)
    · exact t z w
  · rcases w with rfl | w
    · exact hp h
    · exact S.prF b h w
/-- any value, held from now on -/
theorem SimM.hold (S : SimM K m g H) (h : RpV K g H x v) : ∃ g', SimM K m g' H ∧ Ext g H g' H ∧ RpV K g' H x v.nf := by
  cases v with
  | d y => exact ⟨g, S, Ext.refl g H, h⟩
  | mr k => exact ⟨g, S, Ext.refl g H, h⟩
  | dv k => exact ⟨g, S, Ext.refl g H, h⟩
  | fr xs =>
    obtain ⟨a, vs, rfl, h1, h2, h3, h4, h5⟩ := h
    obtain ⟨S', e⟩ := S.fix h1 h4 h5
    exact ⟨_, S', e, Rp.lst (.inl ⟨.inl rfl, h1⟩) (RpAll.ext e _ h2)⟩
/-- a cell is fixed -/
theorem SimM.fixCell (S : SimM K m g H) {k : Nat} {c : Cell} {a : Addr} (hm : m[k]? = some c) (ha : g.ad[k]? = some a) :
    SimM K (m.set k { c with fz := true }) ⟨fun b => b = a ∨ g.F b, g.ad, g.pr⟩ H ∧ Ext g H ⟨fun b => b = a ∨ g.F b, g.ad, g.pr⟩ H ∧ Rp K (fun b => b = a ∨ g.F b) H (.ref a) (.list c.xs) := by
  have e : Ext g H ⟨fun b => b = a ∨ g.F b, g.ad, g.pr⟩ H := ⟨fun _ h => .inr h, fun _ _ => rfl, fun _ _ h => h, fun _ _ _ h => h, ⟨[], by simp⟩, rfl, fun _ _ => rfl⟩
  obtain ⟨vs, p, q, r, t⟩ := S.cell k c a hm ha
  have hk : k < m.length := (List.getElem?_eq_some_iff.mp hm).1
  refine ⟨⟨fun b h => ?_, by rw [List.length_set]; exact S.len, S.nd, fun j c' b h1 h2 => ?_, S.sz, S.prs, fun b h w => ?_, S.prA⟩, e, .lst (.inl ⟨.inl rfl, p⟩) (RpAll.ext e _ q)⟩
  · rcases h with rfl | h
    · exact ⟨_, p⟩
    · exact S.fs b h
  · by_cases hj : j = k
    · subst hj
      rw [List.getElem?_set_self hk] at h1
      cases h1
      rw [ha] at h2
      cases h2
      exact ⟨vs, p, RpAll.ext e _ q, fun _ => .inl rfl, fun z => by simp at z⟩
    · rw [List.getElem?_set_ne (Ne.symm hj)] at h1
      obtain ⟨ws, p', q', r', t'⟩ := S.cell j c' b h1 h2
      refine ⟨ws, p', RpAll.ext e _ q', fun z => .inr (r' z), fun z w => ?_⟩
      rcases w with rfl | w
      · have h3 : g.ad[j]? = g.ad[k]? := h2.trans ha.symm
        have hlt : j < g.ad.length := (List.getElem?_eq_some_iff.mp h2).1
        exact hj ((List.getElem?_inj hlt S.nd).mp h3)
      · exact t' z w
  · rcases w with rfl | w
    · exact S.prA b h (List.mem_of_getElem? ha)
    · exact S.prF b h w
/-- .. as what stands in a container -/
theorem SimM.frz (S : SimM K m g H) (h : RpV K g H x v) {m' : Mem} (e : frz v m = .ok d m') : ∃ g', SimM K m' g' H ∧ Ext g H g' H ∧ Rp K g'.F H x d := by
  cases v with
  | d y =>
    simp only [Ra.frz, Res.ok.injEq] at e
    obtain ⟨rfl, rfl⟩ := e
    exact ⟨g, S, Ext.refl g H, h⟩
  | fr xs =>
    simp only [Ra.frz, Res.ok.injEq] at e
    obtain ⟨rfl, rfl⟩ := e
    obtain ⟨g', S', e', h'⟩ := S.hold h
    exact ⟨g', S', e', h'⟩
  | mr k =>
    obtain ⟨a, rfl, q⟩ := h
    cases hm : m[k]? with
    | none => simp [Ra.frz, hm] at e
    | some c =>
      simp only [Ra.frz, hm, Res.ok.injEq] at e
      obtain ⟨rfl, rfl⟩ := e
      obtain ⟨S', e', r⟩ := S.fixCell hm q
      exact ⟨_, S', e', r⟩
  | dv k => simp [Ra.frz] at e
/-- a new list becomes a cell -/
theorem SimM.mkCell (S : SimM K m g H) (h : RpV K g H x v) {m' : Mem} {v' : Val} (e : mkCell v m = .ok v' m') : ∃ g', SimM K m' g' H ∧ Ext g H g' H ∧ RpV K g' H x v' ∧ ∀ xs, v' ≠ .fr xs := by
  cases v with
  | d y =>
    simp only [Ra.mkCell, Res.ok.injEq] at e
    obtain ⟨rfl, rfl⟩ := e
    exact ⟨g, S, Ext.refl g H, h, by simp⟩
  | mr y =>
    simp only [Ra.mkCell, Res.ok.injEq] at e
    obtain ⟨rfl, rfl⟩ := e
    exact ⟨g, S, Ext.refl g H, h, by simp⟩
  | dv y =>
    simp only [Ra.mkCell, Res.ok.injEq] at e
    obtain ⟨rfl, rfl⟩ := e
    exact ⟨g, S, Ext.refl g H, h, by simp⟩
  | fr xs =>
    simp only [Ra.mkCell, Res.ok.injEq] at e
    obtain ⟨rfl, rfl⟩ := e
    obtain ⟨a, vs, rfl, h1, h2, h3, h4, h5⟩ := h
    have e : Ext g H ⟨g.F, g.ad ++ [a], g.pr⟩ H := ⟨fun _ h => h, fun _ _ => rfl, fun _ _ h => h, fun _ _ _ h => h, ⟨[a], rfl⟩, rfl, fun _ _ => rfl⟩
    refine ⟨⟨g.F, g.ad ++ [a], g.pr⟩, ⟨S.fs, by simp [S.len], ?_, fun k c b q1 q2 => ?_, S.sz, S.prs, S.prF, fun b hb w => ?_⟩, e, ⟨a, rfl, by simp [S.len]⟩, by simp⟩
    · exact List.nodup_append.mpr ⟨S.nd, by simp, fun u hu w hw => by
        simp at hw; subst hw; rintro rfl; exact h4 hu⟩
    · by_cases hk : k < m.length
      · rw [List.getElem?_append_left hk] at q1
        rw [List.getElem?_append_left (by rw [S.len]; exact hk)] at q2
        exact S.cell k c b q1 q2
      · have hk' : m.length ≤ k := Nat.le_of_not_lt hk
        rw [List.getElem?_append_right hk'] at q1
        rw [List.getElem?_append_right (by rw [S.len]; exact hk')] at q2
        have k0 : k - m.length = 0 := by
          have := (List.getElem?_eq_some_iff.mp q1).1
          simp at this
          omega
        rw [k0] at q1
        rw [S.len, k0] at q2
        simp at q1 q2
        subst q1 q2
        exact ⟨vs, h1, h2, fun z => by simp at z, fun _ => h3⟩
    · rcases List.mem_append.mp w with w | w
      · exact S.prA b hb w
      · have w' : b = a := by simpa using w
        subst w'
        exact h5 hb
/-- a new object -/
theorem ext_new {p : Addr} {o : HO} (S : SimM K m g H) (hp : H p = none) : Ext g H g (upd H p o) :=
  ⟨fun _ h => h, fun a h => by
    obtain ⟨xs, q⟩ := S.fs a h
    rw [upd_ne (ne_of_none q hp)], fun a xs h => by rw [upd_ne (ne_of_none h hp)]; exact h, fun a ob u h => by rw [upd_ne (ne_of_none h hp)]; exact h, ⟨[], by simp⟩, rfl, fun a h => by
    obtain ⟨o', q⟩ := S.prs a h
    rw [upd_ne (ne_of_none q hp)]⟩
/-- the length of what an object holds -/
def szOk : HO → Prop
  | .lst xs => xs.length ≤ sizeLine
  | .tup xs => xs.length ≤ sizeLine
  | .frz _ (.lst xs) => xs.length ≤ sizeLine
  | .frz _ (.tup xs) => xs.length ≤ sizeLine
  | _ => True
theorem sim_new {p : Addr} {o : HO} (S : SimM K m g H) (hp : H p = none) (ho : szOk o) : SimM K m g (upd H p o) := by
  have e := ext_new (o := o) S hp
  refine ⟨fun a h => ?_, S.len, S.nd, fun k c a h1 h2 => ?_, fun a xs h => ?_, fun a h => ?_, S.prF, S.prA⟩
  · obtain ⟨xs, q⟩ := S.fs a h
    exact ⟨xs, (e.fix a h).trans q⟩
  · obtain ⟨vs, q, r, t, z⟩ := S.cell k c a h1 h2
    exact ⟨vs, by rw [upd_ne (ne_of_none q hp)]; exact q, RpAll.ext e _ r, t, z⟩
  · by_cases ha : a = p
    · subst ha
      rw [upd_same] at h
      rcases h with h | h | ⟨ob, h⟩ | ⟨ob, h⟩ <;> (cases h; exact ho)
    · rw [upd_ne ha] at h
      exact S.sz a xs h
  · obtain ⟨o', q⟩ := S.prs a h
    exact ⟨o', (e.keep a h).trans q⟩
theorem not_pr {p : Addr} (S : SimM K m g H) (hp : H p = none) : ¬ g.pr p := fun h => by
  obtain ⟨o, q⟩ := S.prs p h
  rw [hp] at q; cases q
theorem not_ad {p : Addr} (S : SimM K m g H) (hp : H p = none) : p ∉ g.ad := fun h => by
  obtain ⟨k, hk⟩ := List.getElem?_of_mem h
  have hlt : k < m.length := by
    rw [← S.len]
    exact (List.getElem?_eq_some_iff.mp hk).1
  obtain ⟨vs, q, _⟩ := S.cell k m[k] p (List.getElem?_eq_getElem hlt) hk
  rw [hp] at q; cases q
theorem not_F {p : Addr} (S : SimM K m g H) (hp : H p = none) : ¬ g.F p := fun h => by
  obtain ⟨xs, q⟩ := S.fs p h
  rw [hp] at q; cases q
/-- a new list, a new tuple -/
theorem new_list {p : Addr} {vs : List V} {ds : List PyData} (S : SimM K m g H) (hp : H p = none) (h : RpAll K g.F H vs ds) (hz : vs.length ≤ sizeLine) :
    SimM K m g (upd H p (.lst vs)) ∧ Ext g H g (upd H p (.lst vs)) ∧ RpV K g (upd H p (.lst vs)) (.ref p) (.fr ds) :=
  ⟨sim_new S hp hz, ext_new S hp, p, vs, rfl, upd_same, RpAll.ext (ext_new S hp) _ h, not_F S hp, not_ad S hp, not_pr S hp⟩
theorem new_tup {p : Addr} {vs : List V} {ds : List PyData} (S : SimM K m g H) (hp : H p = none) (h : RpAll K g.F H vs ds) (hz : vs.length ≤ sizeLine) :
    SimM K m g (upd H p (.tup vs)) ∧ Ext g H g (upd H p (.tup vs)) ∧ RpV K g (upd H p (.tup vs)) (.ref p) (.d (.tuple ds)) :=
  ⟨sim_new S hp hz, ext_new S hp, Rp.tup (.inl (.inl upd_same)) (RpAll.ext (ext_new S hp) _ h)⟩
/-- a cell is changed -/
theorem up_cell {k : Nat} {c : Cell} {a : Addr} {ws : List V} {ys : List PyData} (S : SimM K m g H) (hm : m[k]? = some c) (ha : g.ad[k]? = some a) (hf : c.fz = false) (h : RpAll K g.F H ws ys) (hz : ws.length ≤ sizeLine) :
    SimM K (m.set k ⟨false, ys⟩) g (upd H a (.lst ws)) ∧ Ext g H g (upd H a (.lst ws)) := by
  obtain ⟨vs, p, q, r, t⟩ := S.cell k c a hm ha
  have hk : k < m.length := (List.getElem?_eq_some_iff.mp hm).1
  have nF := t hf
  have e : Ext g H g (upd H a (.lst ws)) := ⟨fun _ h => h, fun b hb => by
    have z : b ≠ a := fun z => nF (by rw [← z]; exact hb)
    rw [upd_ne z], fun b xs hb => by
    rw [upd_ne (ne_of hb p (by intro z; cases z))]; exact hb, fun b o u hb => by rw [upd_ne (ne_of hb p (by intro z; cases z))]; exact hb, ⟨[], by simp⟩, rfl, fun b hb => by
    have z : b ≠ a := fun z => S.prA b hb (by rw [z]; exact List.mem_of_getElem? ha)
    rw [upd_ne z]⟩
  refine ⟨⟨fun b hb => ?_, by rw [List.length_set]; exact S.len, S.nd, fun j c' b h1 h2 => ?_, fun b xs hb => ?_, fun b hb => ?_, S.prF, S.prA⟩, e⟩
  · obtain ⟨xs, z⟩ := S.fs b hb
    exact ⟨xs, (e.fix b hb).trans z⟩
  · by_cases hj : j = k
    · subst hj
      rw [List.getElem?_set_self hk] at h1
      cases h1
      rw [ha] at h2
      cases h2
      exact ⟨ws, upd_same, RpAll.ext e _ h, fun z => by simp at z, fun _ => nF⟩
    · rw [List.getElem?_set_ne (Ne.symm hj)] at h1
      obtain ⟨us, p', q', r', t'⟩ := S.cell j c' b h1 h2
      have nb : b ≠ a := fun z => by
        subst z
        have hlt : j < g.ad.length := (List.getElem?_eq_some_iff.mp h2).1
        exact hj ((List.getElem?_inj hlt S.nd).mp (h2.trans ha.symm))
      exact ⟨us, by rw [upd_ne nb]; exact p', RpAll.ext e _ q', r', t'⟩
  · by_cases hb' : b = a
    · subst hb'
      rw [upd_same] at hb
      rcases hb with z | z | ⟨_, z⟩ | ⟨_, z⟩
      · cases z; exact hz
      · cases z
      · cases z
      · cases z
    · rw [upd_ne hb'] at hb
      exact S.sz b xs hb
  · obtain ⟨o', q'⟩ := S.prs b hb
    exact ⟨o', (e.keep b hb).trans q'⟩
/-- the cells from n on are forgotten -/
theorem SimM.take (S : SimM K m g H) (n : Nat) : SimM K (m.take n) ⟨g.F, g.ad.take n, g.pr⟩ H :=
  ⟨S.fs, by rw [List.length_take, List.length_take, S.len], S.nd.sublist (List.take_sublist _ _), fun k c a h1 h2 => (by
    rw [List.getElem?_take] at h1 h2
    split at h1
    · rename_i hk
      rw [if_pos hk] at h2
      exact S.cell k c a h1 h2
    · cases h1), S.sz, S.prs, S.prF, fun b hb w => S.prA b hb (List.mem_of_mem_take w)⟩
theorem SimM.leave (S : SimM K m g H) {n : Nat} (h : RpV K g H x v) {m' : Mem} {v' : Val} (e : leave n v m = .ok v' m') (hn : n ≤ m.length) : m' = m.take n ∧ RpV K ⟨g.F, g.ad.take n, g.pr⟩ H x v' := by
  cases v with
  | d y =>
    simp only [Ra.leave, Res.ok.injEq] at e
    obtain ⟨rfl, rfl⟩ := e
    exact ⟨rfl, h⟩
  | dv y =>
    simp only [Ra.leave, Res.ok.injEq] at e
    obtain ⟨rfl, rfl⟩ := e
    exact ⟨rfl, h⟩
  | fr xs =>
    simp only [Ra.leave, Res.ok.injEq] at e
    obtain ⟨rfl, rfl⟩ := e
    obtain ⟨a, vs, rfl, h1, h2, h3, h4, h5⟩ := h
    exact ⟨rfl, a, vs, rfl, h1, h2, h3, fun z => h4 (List.mem_of_mem_take z), h5⟩
  | mr k =>
    obtain ⟨a, rfl, q⟩ := h
    simp only [Ra.leave] at e
    split at e
    · rename_i hk
      simp only [Res.ok.injEq] at e
      obtain ⟨rfl, rfl⟩ := e
      exact ⟨rfl, a, rfl, by
        show (g.ad.take n)[k]? = some a
        rw [List.getElem?_take, if_pos hk]; exact q⟩
    · rename_i hk
      cases hm : m[k]? with
      | none => rw [hm] at e; simp at e
      | some c =>
        rw [hm] at e
        simp only [Res.ok.injEq] at e
        obtain ⟨rfl, rfl⟩ := e
        refine ⟨rfl, ?_⟩
        obtain ⟨vs, p, r, t, z⟩ := S.cell k c a hm q
        cases hc : c.fz with
        | true =>
          simp only [if_true]
          exact Rp.lst (.inl ⟨t hc, p⟩) r
        | false =>
          simp only [Bool.false_eq_true, if_false]
          refine ⟨a, vs, rfl, p, r, z hc, fun w => ?_, fun w => S.prA a w (List.mem_of_getElem? q)⟩
          obtain ⟨j, hj⟩ := List.getElem?_of_mem w
          have hj2 : (g.ad.take n)[j]? = some a := hj
          rw [List.getElem?_take] at hj2
          split at hj2
          · rename_i hjn
            have hlt : j < g.ad.length := (List.getElem?_eq_some_iff.mp hj2).1
            have := (List.getElem?_inj hlt S.nd).mp (hj2.trans q.symm)
            omega
          · cases hj2
end
end Ra


set_option Elab.async false
set_option linter.all false
set_option autoImplicit false
set_option maxRecDepth 100000
/-! readings by the evaluator -/
namespace Ra
open PySem PySem.Spec PyProof.Rows L2

def Rz (K : PySem.W.Frag) {α : Type} (r : Res α) (g : G) (H : Hp) (Q : α → Mem → G → Hp → Prop) : Prop :=
  match r with
  | .ok a m' => ∀ g' H', Ext g H g' H' → SimM K m' g' H' → Q a m' g' H'
  | .exc _ _ => False
  | .fail => False
section
variable {K : PySem.W.Frag} {α β : Type} {g g' : G} {H H' : Hp}
theorem Rz.ext {r : Res α} {Q : α → Mem → G → Hp → Prop} (e : Ext g H g' H') (h : Rz K r g H Q) : Rz K r g' H' Q := by
  cases r with
  | ok a m' => exact fun g2 H2 e2 => h g2 H2 (e.trans e2)
  | exc x m' => exact h
  | fail => exact h
theorem Rz.mono {r : Res α} {Q Q' : α → Mem → G → Hp → Prop} (h : Rz K r g H Q) (q : ∀ a m g' H', Ext g H g' H' → SimM K m g' H' → Q a m g' H' → Q' a m g' H') : Rz K r g H Q' := by
  cases r with
  | ok a m' => exact fun g2 H2 e2 s2 => q _ _ _ _ e2 s2 (h g2 H2 e2 s2)
  | exc x m' => exact h
  | fail => exact h
theorem Rz.bind {r : Res α} {f : α → Mem → Res β} {Q : β → Mem → G → Hp → Prop} (h : Rz K (r.bind f) g H Q) : Rz K r g H fun a m' g' H' => Rz K (f a m') g' H' Q := by
  cases r with
  | ok a m' => exact fun g2 H2 e2 s2 => Rz.ext e2 h
  | exc x m' => exact h
  | fail => exact h
theorem Rz.ok_now {a : α} {m : Mem} {Q : α → Mem → G → Hp → Prop} (h : Rz K (.ok a m) g H Q) (S : SimM K m g H) : Q a m g H := h g H (Ext.refl g H) S
theorem Rz.opt {o : Option α} {m : Mem} {Q : α → Mem → G → Hp → Prop} (h : Rz K (optR o m) g H Q) : ∃ a, o = some a ∧ Rz K (.ok a m) g H Q := by
  cases o with
  | none => exact h.elim
  | some a => exact ⟨a, rfl, h⟩
theorem Rz.rd {m : Mem} {v : Val} {Q : PyData → Mem → G → Hp → Prop} (h : Rz K (rdR m v) g H Q) : ∃ d, Ra.rd m v = some d ∧ Rz K (.ok d m) g H Q := Rz.opt h
theorem Rz.rdBind {m : Mem} {v : Val} {f : PyData → Mem → Res β} {Q : β → Mem → G → Hp → Prop} (h : Rz K ((rdR m v).bind f) g H Q) : ∃ d, Ra.rd m v = some d ∧ Rz K (f d m) g H Q := by
  unfold rdR optR at h
  cases e : Ra.rd m v with
  | none => rw [e] at h; exact h.elim
  | some d => rw [e] at h; exact ⟨d, rfl, h⟩
theorem Rz.optBind {o : Option α} {m : Mem} {f : α → Mem → Res β} {Q : β → Mem → G → Hp → Prop} (h : Rz K ((optR o m).bind f) g H Q) : ∃ d, o = some d ∧ Rz K (f d m) g H Q := by
  unfold optR at h
  cases o with
  | none => exact h.elim
  | some d => exact ⟨d, rfl, h⟩
end
/-! readings of what may raise -/
abbrev Zx := Exn → Mem → G → Hp → Prop
def Rx (K : PySem.W.Frag) (Z : Zx) {α : Type} (r : Res α) (g : G) (H : Hp) (Q : α → Mem → G → Hp → Prop) : Prop :=
  match r with
  | .ok a m' => ∀ g' H', Ext g H g' H' → SimM K m' g' H' → Q a m' g' H'
  | .exc x m' => ∀ g' H', Ext g H g' H' → SimM K m' g' H' → Z x m' g' H'
  | .fail => False
section
variable {K : PySem.W.Frag} {α β : Type} {g g' : G} {H H' : Hp} {Z Z' : Zx}
theorem Rx.ext {r : Res α} {Q : α → Mem → G → Hp → Prop} (e : Ext g H g' H') (h : Rx K Z r g H Q) : Rx K Z r g' H' Q := by
  cases r with
  | ok a m' => exact fun g2 H2 e2 => h g2 H2 (e.trans e2)
  | exc x m' => exact fun g2 H2 e2 => h g2 H2 (e.trans e2)
  | fail => exact h
theorem Rx.mono {r : Res α} {Q Q' : α → Mem → G → Hp → Prop} (h : Rx K Z r g H Q) (q : ∀ a m g' H', Ext g H g' H' → SimM K m g' H' → Q a m g' H' → Q' a m g' H') : Rx K Z r g H Q' := by
  cases r with
  | ok a m' => exact fun g2 H2 e2 s2 => q _ _ _ _ e2 s2 (h g2 H2 e2 s2)
  | exc x m' => exact h
  | fail => exact h
theorem Rx.monoZ {r : Res α} {Q Q' : α → Mem → G → Hp → Prop} (h : Rx K Z r g H Q) (q : ∀ a m g' H', Ext g H g' H' → SimM K m g' H' → Q a m g' H' → Q' a m g' H') (z : ∀ x m g' H', Ext g H g' H' → SimM K m g' H' → Z x m g' H' → Z' x m g' H') : Rx K Z' r g H Q' := by
  cases r with
  | ok a m' => exact fun g2 H2 e2 s2 => q _ _ _ _ e2 s2 (h g2 H2 e2 s2)
  | exc x m' => exact fun g2 H2 e2 s2 => z _ _ _ _ e2 s2 (h g2 H2 e2 s2)
  | fail => exact h
theorem Rx.bind {r : Res α} {f : α → Mem → Res β} {Q : β → Mem → G → Hp → Prop} (h : Rx K Z (r.bind f) g H Q) : Rx K Z r g H fun a m' g' H' => Rx K Z (f a m') g' H' Q := by
  cases r with
  | ok a m' => exact fun g2 H2 e2 s2 => Rx.ext e2 h
  | exc x m' => exact h
  | fail => exact h
/-- where no exception is served -/
theorem Rx.bindX {r : Res α} {f : α → Mem → Res β} {Q : β → Mem → G → Hp → Prop} (h : Rx K Z (r.noX.bind f) g H Q) : Rz K r g H fun a m' g' H' => Rx K Z (f a m') g' H' Q := by
  cases r with
  | ok a m' => exact fun g2 H2 e2 s2 => Rx.ext e2 h
  | exc x m' => exact h
  | fail => exact h
theorem Rx.ok_now {a : α} {m : Mem} {Q : α → Mem → G → Hp → Prop} (h : Rx K Z (.ok a m) g H Q) (S : SimM K m g H) : Q a m g H := h g H (Ext.refl g H) S
theorem Rx.rdBind {m : Mem} {v : Val} {f : PyData → Mem → Res β} {Q : β → Mem → G → Hp → Prop} (h : Rx K Z ((rdR m v).bind f) g H Q) : ∃ d, Ra.rd m v = some d ∧ Rx K Z (f d m) g H Q := by
  unfold rdR optR at h
  cases e : Ra.rd m v with
  | none => rw [e] at h; exact h.elim
  | some d => rw [e] at h; exact ⟨d, rfl, h⟩
theorem Rz.rx {r : Res α} {Q : α → Mem → G → Hp → Prop} (h : Rz K r g H Q) : Rx K Z r g H Q := by
  cases r with
  | ok a m' => exact h
  | exc x m' => exact h.elim
  | fail => exact h
theorem frz_nx {v : Val} {m : Mem} {x : Exn} {m' : Mem} : Ra.frz v m ≠ .exc x m' := by
  intro h
  cases v with
  | d _ => cases h
  | fr _ => cases h
  | mr k =>
    unfold Ra.frz at h
    cases hk : m[k]? with
    | none => simp [hk] at h
    | some c => simp [hk] at h
  | dv _ => cases h
theorem mkCell_nx {v : Val} {m : Mem} {x : Exn} {m' : Mem} : Ra.mkCell v m ≠ .exc x m' := by
  intro h
  cases v <;> cases h
theorem stored_nx {c : Bool} {v : Val} {m : Mem} {x : Exn} {m' : Mem} : Ra.stored c v m ≠ .exc x m' := by
  intro h
  unfold Ra.stored at h
  split at h
  · exact mkCell_nx h
  · cases h
end
/-- the names -/
structure Sg (K : PySem.W.Frag) (env : Env) (σ : L2.St) (g : G) (H : Hp) : Prop where
  len : env.length = σ.length
  at_ : ∀ i v, getV env i = some v → ∃ x, σ[i]? = some (some x) ∧ RpV K g H x v ∧ ∀ xs, v ≠ .fr xs
section
variable {K : PySem.W.Frag} {α β : Type} {g g' : G} {H H' : Hp} {env : Env} {σ : L2.St}
theorem Sg.ext (s : Sg K env σ g H) (e : Ext g H g' H') : Sg K env σ g' H' := ⟨s.len, fun i v h => by
  obtain ⟨x, h1, h2, h3⟩ := s.at_ i v h
  exact ⟨x, h1, h2.ext e h3, h3⟩⟩
theorem getV_set {i j : Nat} {v : Option Val} : getV (env.set i v) j = if i = j then (if i < env.length then v else none) else getV env j := by
  unfold getV
  rw [List.getElem?_set]
  by_cases h : i = j
  · subst h
    simp only [if_true]
    by_cases h2 : i < env.length
    · simp [h2]
    · simp [h2]
  · simp [h]
theorem Sg.set (s : Sg K env σ g H) {i : Nat} {v : Val} {x : V} (h : RpV K g H x v) (hf : ∀ xs, v ≠ .fr xs) (hi : i < env.length) : Sg K (setV env i v) (σ.set i (some x)) g H := by
  refine ⟨by simp [setV, s.len], fun j w q => ?_⟩
  unfold setV at q
  rw [getV_set] at q
  by_cases hj : i = j
  · subst hj
    rw [if_pos rfl, if_pos hi] at q
    cases q
    exact ⟨x, by rw [List.getElem?_set_self (by rw [← s.len]; exact hi)], h, hf⟩
  · rw [if_neg hj] at q
    obtain ⟨y, h1, h2, h3⟩ := s.at_ j w q
    exact ⟨y, by rw [List.getElem?_set_ne hj]; exact h1, h2, h3⟩
theorem Sg.wipe1 (s : Sg K env σ g H) (i : Nat) : Sg K (env.set i none) (σ.set i none) g H := by
  refine ⟨by simp [s.len], fun j w q => ?_⟩
  rw [getV_set] at q
  by_cases hj : i = j
  · subst hj
    rw [if_pos rfl] at q
    split at q <;> cases q
  · rw [if_neg hj] at q
    obtain ⟨y, h1, h2, h3⟩ := s.at_ j w q
    exact ⟨y, by rw [List.getElem?_set_ne hj]; exact h1, h2, h3⟩
theorem Sg.wipe (s : Sg K env σ g H) : ∀ vs : List Nat, Sg K (Ra.wipe env vs) (L2.wipe σ vs) g H
  | [] => s
  | v :: vs => (Sg.wipe s vs).wipe1 v
end
/-- readings -/
def tE (K : PySem.W.Frag) (p : EV) : TE := fun σ H Q => ∃ env m g, Sg K env σ g H ∧ SimM K m g H ∧ Rz K (p env m) g H fun v _ g' H' => ∀ x, RpV K g' H' x v → Q x H'
def tT (K : PySem.W.Frag) (p : ET) : TT := fun σ H Q => ∃ env m g, Sg K env σ g H ∧ SimM K m g H ∧ Rz K (p env m) g H fun b _ _ H' => Q b H'
inductive RpVs (K : PySem.W.Frag) (g : G) (H : Hp) : List V → List Val → Prop
  | nil : RpVs K g H [] []
  | cons {x : V} {xs : List V} {v : Val} {vs : List Val} : RpV K g H x v → (∀ ys, v ≠ .fr ys) → RpVs K g H xs vs → RpVs K g H (x :: xs) (v :: vs)
def tAr (K : PySem.W.Frag) (p : Env → Mem → Res (List Val)) : TA := fun σ H Q => ∃ env m g, Sg K env σ g H ∧ SimM K m g H ∧ Rz K (p env m) g H fun vs _ g' H' => ∀ xs, RpVs K g' H' xs vs → Q xs H'
def tIt (K : PySem.W.Frag) (p : Env → Mem → Res (List PyData)) : TA := fun σ H Q => ∃ env m g, Sg K env σ g H ∧ SimM K m g H ∧ Rz K (p env m) g H fun ds _ g' H' => ∀ xs, RpAll K g'.F H' xs ds → Q xs H'
section
variable {X : Cx} {e : Expr} {es : List Expr} {t t' : TE}
theorem PE.weak (h : PE X e t) (w : ∀ σ H Q, t' σ H Q → t σ H Q) : PE X e t' := ⟨fun pins s σ H Q I q => h.run pins s σ H Q I (w σ H Q q)⟩
theorem PT.weak {t t' : TT} (h : PT X e t) (w : ∀ σ H Q, t' σ H Q → t σ H Q) : PT X e t' := ⟨fun pins s σ H Q I q => h.run pins s σ H Q I (w σ H Q q)⟩
theorem PW.weak {t t' : TT} (h : PW X e t) (w : ∀ σ H Q, t' σ H Q → t σ H Q) : PW X e t' := ⟨fun wh pins s σ H Q I q => h.run wh pins s σ H Q I (w σ H Q q)⟩
theorem PA.weak {t t' : TA} (h : PA X es t) (w : ∀ σ H Q, t' σ H Q → t σ H Q) : PA X es t' := ⟨fun pos pins s σ H Q I q => h.run pos pins s σ H Q I (w σ H Q q)⟩
theorem PS.weak {st : Stmt} {t t' : TS} (h : PS X st t) (w : ∀ D σ H, t' D σ H → t D σ H) : PS X st t' := ⟨fun pins s σ H D I q => h.run pins s σ H D I (w D σ H q)⟩
theorem PSs.weak {st : List Stmt} {t t' : TS} (h : PSs X st t) (w : ∀ D σ H, t' D σ H → t D σ H) : PSs X st t' := ⟨fun pins s σ H D I q => h.run pins s σ H D I (w D σ H q)⟩
theorem PI.weak {tg it : Expr} {t t' : TI} (h : PI X tg it t) (w : ∀ σ H Q, t' σ H Q → t σ H Q) : PI X tg it t' := ⟨fun pins s σ H R I q => h.run pins s σ H R I (w σ H R q)⟩
theorem PI.or {tg it : Expr} {t t' : TI} (h : PI X tg it t) (h' : PI X tg it t') : PI X tg it (fun σ H R => t σ H R ∨ t' σ H R) := ⟨fun pins s σ H R I q => q.elim (h.run pins s σ H R I) (h'.run pins s σ H R I)⟩
theorem OpR.or {f : Value → Value → Sem Value} {r r' : R2} (h : OpR X f r) (h' : OpR X f r') : OpR X f (fun x y H Q => r x y H Q ∨ r' x y H Q) := fun pins s σ H x y v u Q I rx ry q => q.elim (h pins s σ H x y v u Q I rx ry) (h' pins s σ H x y v u Q I rx ry)
theorem OpR.weak {f : Value → Value → Sem Value} {r r' : R2} (h : OpR X f r) (w : ∀ x y H Q, r' x y H Q → r x y H Q) : OpR X f r' := fun pins s σ H x y v u Q I rx ry q => h pins s σ H x y v u Q I rx ry (w _ _ _ _ q)
theorem CallR.or {f : Value} {r r' : List V → Hp → VK → Prop} (h : CallR X f r) (h' : CallR X f r') : CallR X f (fun xs H Q => r xs H Q ∨ r' xs H Q) := fun pins s σ H xs us Q I rx q => q.elim (h pins s σ H xs us Q I rx) (h' pins s σ H xs us Q I rx)
theorem CallR.weak {f : Value} {r r' : List V → Hp → VK → Prop} (h : CallR X f r) (w : ∀ xs H Q, r' xs H Q → r xs H Q) : CallR X f r' := fun pins s σ H xs us Q I rx q => h pins s σ H xs us Q I rx (w _ _ _ q)
end
/-! the operators, by what they read -/
def rOp (K : PySem.W.Frag) (f : PyData → PyData → Mem → Res Val) : R2 := fun x y H Q => ∃ m g dx dy, SimM K m g H ∧ Rr K g.F H x dx ∧ Rr K g.F H y dy ∧ Rz K (f dx dy m) g H fun v _ g' H' => ∀ z, RpV K g' H' z v → Q z H'
/-- two operands -/
theorem c2_ok {K : PySem.W.Frag} {pa pb : P} {f : PyData → PyData → Mem → Res Val} {σ : L2.St} {H : Hp} {Q : VK} (h : tE K (c2 pa pb f) σ H Q) :
    tE K pa.v σ H fun x H1 => tE K pb.v σ H1 fun y H2 => rOp K f x y H2 Q := by
  obtain ⟨env, m, g, hs, hm, hz⟩ := h
  refine ⟨env, m, g, hs, hm, (Rz.bind hz).mono fun va m1 g1 H1 e1 s1 z1 x rx => ?_⟩
  obtain ⟨g1', s1', e1', rx'⟩ := s1.hold rx
  refine ⟨env, m1, g1', (hs.ext e1).ext e1', s1', (Rz.bind (z1.ext e1')).mono fun vb m2 g2 H2 e2 s2 z2 y ry => ?_⟩
  obtain ⟨g2', s2', e2', ry'⟩ := s2.hold ry
  obtain ⟨dx, hx, z3⟩ := Rz.rdBind (z2.ext e2')
  obtain ⟨dy, hy, z4⟩ := Rz.rdBind z3
  exact ⟨m2, g2', dx, dy, s2', s2'.read (nf_ne va) (RpV.ext (e2.trans e2') (nf_ne va) rx') hx, s2'.read (nf_ne vb) ry' hy, z4⟩
theorem pe_c2 {X : Cx} {a b : Expr} {op : Operator} {pos : Pos} {pa pb : P} {f : PyData → PyData → Mem → Res Val} (ha : PE X a (tE X.K pa.v)) (hb : PE X b (tE X.K pb.v)) (ho : OpR X (binaryOp op) (rOp X.K f)) :
    PE X (.BinOp a op b pos) (tE X.K (c2 pa pb f)) := PE.weak (pe_op ho ha hb) fun _ _ _ h => c2_ok h
theorem c1_ok {K : PySem.W.Frag} {pa : P} {f : PyData → Mem → Res Val} {σ : L2.St} {H : Hp} {Q : VK} (h : tE K (c1 pa f) σ H Q) :
    tE K pa.v σ H fun x H1 => ∃ m g dx, SimM K m g H1 ∧ Rr K g.F H1 x dx ∧ Rz K (f dx m) g H1 fun v _ g' H' => ∀ z, RpV K g' H' z v → Q z H' := by
  obtain ⟨env, m, g, hs, hm, hz⟩ := h
  refine ⟨env, m, g, hs, hm, (Rz.bind hz).mono fun va m1 g1 H1 e1 s1 z1 x rx => ?_⟩
  obtain ⟨g1', s1', e1', rx'⟩ := s1.hold rx
  obtain ⟨dx, hx, z3⟩ := Rz.rdBind (z1.ext e1')
  exact ⟨m1, g1', dx, s1', s1'.read (nf_ne va) rx' hx, z3⟩
end Ra


set_option Elab.async false
set_option linter.all false
set_option autoImplicit false
set_option maxRecDepth 100000
/-! the operators -/
namespace Ra
open PySem PySem.Spec PyProof.Rows L2
theorem lim_eq : lim = sizeLine := by rw [sizeLine_eq]; rfl
section
variable {K : PySem.W.Frag} {F : Addr → Prop} {H : Hp} {x : V}
theorem Rr.int {i : Int} (h : Rr K F H x (.int i)) : x = .int i := by cases h; rfl
theorem Rr.bool {b : Bool} (h : Rr K F H x (.bool b)) : x = .bl b := by cases h; rfl
theorem Rr.str {z : Str} (h : Rr K F H x (.str z)) : x = .str z := by cases h; rfl
theorem Rr.sok {z : Str} (h : Rr K F H x (.str z)) : sOk z = true := by
  cases h with
  | str _ h => exact h
theorem sok_len {z : Str} (h : sOk z = true) : z.length ≤ sizeLine := by
  rw [← lim_eq]; exact of_decide_eq_true (Bool.and_eq_true_iff.mp h).2
theorem Rr.none (h : Rr K F H x .none) : x = .non := by cases h; rfl
theorem Rr.tup {ds : List PyData} (h : Rr K F H x (.tuple ds)) : ∃ a xs, x = .ref a ∧ SqT K H a xs ∧ RpAll K F H xs ds := by
  cases h with
  | tup a b => exact ⟨_, _, rfl, a, b⟩
theorem Rr.lst {ds : List PyData} (h : Rr K F H x (.list ds)) : ∃ a xs, x = .ref a ∧ Rd H a (.lst xs) ∧ RpAll K F H xs ds := h
mutual
theorem Rp.dp : ∀ (d : PyData) {x : V}, Rp K F H x d → Dp K H x d
  | .none, _, h => by cases h; exact .non
  | .bool b, _, h => by cases h; exact .bl b
  | .int i, _, h => by cases h; exact .int i
  | .str s, _, h => by
    cases h with
    | str _ h => exact .str s
  | .list ds, _, h => by
    cases h with
    | lst a b => exact .lst (.inl a.rd) (RpAll.dp ds b)
  | .tuple ds, _, h => by
    cases h with
    | tup a b => exact .tup a (RpAll.dp ds b)
  | .dict _, _, h => by cases h
theorem RpAll.dp : ∀ (ds : List PyData) {xs : List V}, RpAll K F H xs ds → DpAll K H xs ds
  | [], _, h => by cases h; exact .nil
  | d :: ds, _, h => by
    cases h with
    | cons a b => exact .cons (Rp.dp d a) (RpAll.dp ds b)
end
mutual
theorem Rp.lay : ∀ (d : PyData) {x : V}, Rp K F H x d → d.canLay0 = true
  | .none, _, h => rfl
  | .bool b, _, h => rfl
  | .int i, _, h => rfl
  | .str s, _, h => by
    cases h with
    | str _ h => exact (Bool.and_eq_true_iff.mp h).1
  | .list ds, _, h => by
    cases h with
    | lst a b => exact RpAll.lay ds b
  | .tuple ds, _, h => by
    cases h with
    | tup a b => exact RpAll.lay ds b
  | .dict _, _, h => by cases h
theorem RpAll.lay : ∀ (ds : List PyData) {xs : List V}, RpAll K F H xs ds → PyData.canLayAll0 ds = true
  | [], _, h => rfl
  | d :: ds, _, h => by
    cases h with
    | cons a b =>
      have h1 := Rp.lay d a
      have h2 := RpAll.lay ds b
      simp [PyData.canLayAll0, h1, h2]
end
theorem Rr.dp {d : PyData} (h : Rr K F H x d) : Dp K H x d := by
  cases d with
  | list ds =>
    obtain ⟨a, xs, rfl, h1, h2⟩ := h
    exact .lst (.inl h1) (RpAll.dp _ h2)
  | none => exact Rp.dp _ h
  | bool b => exact Rp.dp _ h
  | int b => exact Rp.dp _ h
  | str b => exact Rp.dp _ h
  | tuple b => exact Rp.dp _ h
  | dict b => exact Rp.dp _ h
theorem Rr.lay {d : PyData} (h : Rr K F H x d) : d.canLay0 = true := by
  cases d with
  | list ds =>
    obtain ⟨a, xs, rfl, h1, h2⟩ := h
    exact RpAll.lay _ h2
  | none => exact Rp.lay _ h
  | bool b => exact Rp.lay _ h
  | int b => exact Rp.lay _ h
  | str b => exact Rp.lay _ h
  | tuple b => exact Rp.lay _ h
  | dict b => exact Rp.lay _ h
end
section
variable {X : Cx}
theorem lstR {pins : List (Addr × Obj)} {σ : L2.St} {H : Hp} {s : Shared} {l : Addr} {xs : List V} (I : Inv X pins σ H s) (hH : Rd H l (.lst xs)) :
    xs.length ≤ sizeLine ∧ ∃ (its : List Value) (n : Nat), Vals xs its ∧ xs.length = its.length ∧ s.heap.get? l = some { cls := .type "list", data := .seq its.toArray n } := by
  obtain ⟨z, its, n, r, e⟩ := hH.ok I.hok
  exact ⟨z, its, n, r, r.length, e⟩
/-- the answer is a value of data -/
abbrev Ans (K : PySem.W.Frag) (Q : VK) : Val → Mem → G → Hp → Prop := fun v _ g' H' => ∀ z, RpV K g' H' z v → Q z H'
theorem ans_d {K : PySem.W.Frag} {Q : VK} {m : Mem} {g : G} {H : Hp} {d : PyData} {x : V} (S : SimM K m g H) (h : Rz K (.ok (.d d) m) g H (Ans K Q)) (r : Rp K g.F H x d) : Q x H := Rz.ok_now h S x r
theorem ans_l {K : PySem.W.Frag} {Q : VK} {m : Mem} {g : G} {H : Hp} {ds : List PyData} {vs : List V} {p : Addr} (S : SimM K m g H) (h : Rz K (.ok (.fr ds) m) g H (Ans K Q)) (r : RpAll K g.F H vs ds) (hz : vs.length ≤ sizeLine) (hp : H p = none) :
    Q (.ref p) (upd H p (.lst vs)) := by
  obtain ⟨S', e, q⟩ := new_list S hp r hz
  exact h _ _ e S' _ q
theorem ans_t {K : PySem.W.Frag} {Q : VK} {m : Mem} {g : G} {H : Hp} {ds : List PyData} {vs : List V} {p : Addr} (S : SimM K m g H) (h : Rz K (.ok (.d (.tuple ds)) m) g H (Ans K Q)) (r : RpAll K g.F H vs ds) (hz : vs.length ≤ sizeLine) (hp : H p = none) :
    Q (.ref p) (upd H p (.tup vs)) := by
  obtain ⟨S', e, q⟩ := new_tup S hp r hz
  exact h _ _ e S' _ q
theorem sok_cat {x y : Str} (hx : sOk x = true) (hy : sOk y = true) (h : x.length + y.length ≤ lim) : sOk (x ++ y) = true := by
  obtain ⟨a, _⟩ := Bool.and_eq_true_iff.mp hx
  obtain ⟨b, _⟩ := Bool.and_eq_true_iff.mp hy
  refine Bool.and_eq_true_iff.mpr ⟨?_, decide_eq_true ?_⟩
  · show ((x.cps ++ y.cps).all (· < 0x110000)) = true
    rw [Array.all_append, Bool.and_eq_true_iff]
    exact ⟨a, b⟩
  · show (x.cps ++ y.cps).size ≤ lim
    rw [Array.size_append]; exact h
theorem or_add : OpR X (binaryOp .Add) (rOp X.K fun x y m => optR (bop .add x y) m) := by
  intro pins s σ H x y v u Q I rx ry h
  obtain ⟨m, g, dx, dy, S, hx, hy, hz⟩ := h
  obtain ⟨w, hw, hz⟩ := Rz.opt hz
  replace hw : addD dx dy = some w := hw
  unfold addD at hw
  split at hw
  · cases hw
    have e1 := hx.int; have e2 := hy.int; subst e1 e2
    exact op_add pins s σ H _ _ v u Q I rx ry ⟨_, _, rfl, rfl, ans_d S hz (.int _)⟩
  · split at hw
    · rename_i hl
      cases hw
      have e1 := hx.str; have e2 := hy.str; subst e1 e2
      exact op_add_str pins s σ H _ _ v u Q I rx ry ⟨_, _, rfl, rfl, by rw [← lim_eq]; exact hl, ans_d S hz (.str _ (sok_cat hx.sok hy.sok hl))⟩
    · cases hw
  · split at hw
    · rename_i hl
      cases hw
      obtain ⟨a, vs, rfl, h1, h2⟩ := hx.lst
      obtain ⟨b, ws, rfl, h3, h4⟩ := hy.lst
      cases rx
      cases ry
      obtain ⟨z, its, n, r, hl1, e⟩ := lstR I h1
      obtain ⟨z2, its2, n2, r2, hl2, e2⟩ := lstR I h3
      have hh : vs.length + ws.length ≤ sizeLine := by rw [← lim_eq, h2.length, h4.length]; exact hl
      refine PySem.P.add_list e e2 ?_ (by
        rw [List.size_toArray, List.size_toArray]
        omega)
      rw [show its.toArray ++ its2.toArray = (its ++ its2).toArray by simp]
      exact ⟨.ref _, _, I.lnew (t' := s.toks) (r.append r2) (by rw [List.length_append]; omega), rfl, ans_l S hz (h2.append h4) (by rw [List.length_append]; exact hh) I.fresh⟩
    · cases hw
  · split at hw
    · rename_i hl
      cases hw
      obtain ⟨a, vs, rfl, h1, h2⟩ := hx.tup
      obtain ⟨b, ws, rfl, h3, h4⟩ := hy.tup
      have hh : vs.length + ws.length ≤ sizeLine := by rw [← lim_eq, h2.length, h4.length]; exact hl
      refine op_catA pins s σ H _ _ v u Q I rx ry ⟨a, b, vs, ws, rfl, rfl, h1, h3, hh, fun e => ?_, fun _ e => ?_, fun _ _ p hp => ans_t S hz (h2.append h4) (by rw [List.length_append]; exact hh) hp⟩
      · subst e
        cases h2
        exact ans_d S hz (.tup h3 h4)
      · subst e
        cases h4
        rw [List.append_nil] at hz
        exact ans_d S hz (.tup h1 h2)
    · cases hw
  · cases hw
theorem or_sub : OpR X (binaryOp .Sub) (rOp X.K fun x y m => optR (bop .sub x y) m) := by
  intro pins s σ H x y v u Q I rx ry h
  obtain ⟨m, g, dx, dy, S, hx, hy, hz⟩ := h
  obtain ⟨w, hw, hz⟩ := Rz.opt hz
  replace hw : subD dx dy = some w := hw
  unfold subD at hw
  split at hw
  · cases hw
    have e1 := hx.int; have e2 := hy.int; subst e1 e2
    exact op_sub pins s σ H _ _ v u Q I rx ry ⟨_, _, rfl, rfl, ans_d S hz (.int _)⟩
  · cases hw
theorem rep_ok {pins : List (Addr × Obj)} {σ : L2.St} {H : Hp} {s : Shared} {l : Addr} {ws : List V} {j : Int} {tk : Tok} {Q : VK} (I : Inv X pins σ H s) (hw : Rd H l (.lst ws)) (j1 : -(2 ^ 63) ≤ j) (j2 : j < 2 ^ 63)
    (hj : ws.length * j.toNat ≤ sizeLine) (fin : ∀ p, H p = none → Q (.ref p) (upd H p (.lst (List.replicate j.toNat ws).flatten))) : wpAny (model X.prog X.w) X.A (binaryOp .Mult (.ref l) (.int j tk)) (EP X pins σ Q) X.xe s := by
  obtain ⟨zz, is, nn, rv, hlen0, eo⟩ := lstR I hw
  have b1 : is.toArray.size * j.toNat ≤ sizeLine := by
    rw [List.size_toArray, ← hlen0]
    exact hj
  have b2 : ¬ is.toArray.size * j.toNat > (2 ^ 63 - 1) / 8 := by
    have z : (sizeLine : Nat) ≤ (2 ^ 63 - 1) / 8 := by decide
    omega
  have b3 : ¬ (!Builtin.List.listFitsIndex j) = true := by
    rw [fitsIndex_both j1 j2]
    decide
  have b4 : ¬ Builtin.List.listTooLong (is.toArray.size * j.toNat) = true := by
    rw [notLongL b1]
    decide
  have made : List.foldl (fun a b => a ++ b) #[] (List.replicate (if is.toArray.isEmpty = true then 0 else j.toNat) is.toArray) = (List.replicate j.toNat is).flatten.toArray := by
    have all : ∀ n : Nat, List.foldl (fun a b => a ++ b) #[] (List.replicate n is.toArray) = (List.replicate n is).flatten.toArray := fun n => by
      have q := foldl_rep is n []
      rw [List.nil_append] at q
      exact q
    rw [all]
    cases is with
    | nil => simp
    | cons _ _ => rw [if_neg (by simp)]
  refine wpAny_binaryOp_repeat_ref (T := "list") (U := "int") (by decide) ⟨_, eo, rfl⟩ (fun s' => typeIs_int s' j tk) noFill_list_mul F.fills_int_mul F.slot_int_rmul repeat_list
    F.slot_int_index.lookup (call_meets F.slot_int_rmul (typeIs_int s j tk) F.entry_int_rmul (F.args_int_rmul_2 _ _) (int___rmul___int_list j tk l is.toArray nn) ⟨eo, rfl, ⟨_, eo, rfl⟩,
      call_meets F.slot_list_mul ⟨_, eo, rfl⟩ F.entry_list_mul (F.args_list_mul_2 _ _) (AutoListH.list___mul___list_int_3 l is.toArray nn j tk b3 b2 b4) ⟨eo, ?_⟩⟩)
  rw [made]
  exact ⟨.ref _, _, I.lnew (t' := s.toks) (rv.rep j.toNat) (by rw [PyProof.Rows.lm_len_rep_flat, Nat.mul_comm]; exact hj), rfl, fin _ I.fresh⟩
theorem small64_ok {i j : Int} (h : (small64 i || small64 j) = true) : CMul i j := by
  unfold small64 at h
  simp only [Bool.or_eq_true, Bool.and_eq_true, decide_eq_true_eq] at h
  exact h
theorem or_mul : OpR X (binaryOp .Mult) (rOp X.K fun x y m => optR (bop .mul x y) m) := by
  intro pins s σ H x y v u Q I rx ry h
  obtain ⟨m, g, dx, dy, S, hx, hy, hz⟩ := h
  obtain ⟨w, hw, hz⟩ := Rz.opt hz
  replace hw : mulD dx dy = some w := hw
  unfold mulD at hw
  split at hw
  · split at hw
    · rename_i hc
      cases hw
      have e1 := hx.int; have e2 := hy.int; subst e1 e2
      exact op_mul pins s σ H _ _ v u Q I rx ry ⟨_, _, rfl, rfl, small64_ok hc, ans_d S hz (.int _)⟩
    · cases hw
  · split at hw
    · rename_i k hc
      cases hw
      obtain ⟨c1, c2, c3⟩ := hc
      obtain ⟨a, vs, rfl, h1, h2⟩ := hx.lst
      have e2 := hy.int; subst e2
      cases rx
      obtain ⟨t, rfl⟩ := ry
      obtain ⟨z, its, n, r, hl, e⟩ := lstR I h1
      have hc3 : vs.length * k.toNat ≤ sizeLine := by rw [← lim_eq, h2.length]; exact c3
      exact rep_ok I h1 (by omega) (by omega) hc3 (fun p hp => ans_l S hz (h2.rep _) (by
        rw [List.length_flatten, List.map_replicate, List.sum_replicate_nat, Nat.mul_comm]; exact hc3) hp)
    · cases hw
  · cases hw
theorem or_fdiv : OpR X (binaryOp .FloorDiv) (rOp X.K fun x y m => optR (bop .fdiv x y) m) := by
  intro pins s σ H x y v u Q I rx ry h
  obtain ⟨m, g, dx, dy, S, hx, hy, hz⟩ := h
  obtain ⟨w, hw, hz⟩ := Rz.opt hz
  replace hw : fdivD dx dy = some w := hw
  unfold fdivD at hw
  split at hw
  · split at hw
    · rename_i hc
      cases hw
      have e1 := hx.int; have e2 := hy.int; subst e1 e2
      exact op_fdivN pins s σ H _ _ v u Q I rx ry ⟨_, _, rfl, rfl, hc, ans_d S hz (.int _)⟩
    · cases hw
  · cases hw
theorem or_mod : OpR X (binaryOp .Mod) (rOp X.K fun x y m => optR (bop .mod x y) m) := by
  intro pins s σ H x y v u Q I rx ry h
  obtain ⟨m, g, dx, dy, S, hx, hy, hz⟩ := h
  obtain ⟨w, hw, hz⟩ := Rz.opt hz
  replace hw : modD dx dy = some w := hw
  unfold modD at hw
  split at hw
  · split at hw
    · rename_i hc
      cases hw
      have e1 := hx.int; have e2 := hy.int; subst e1 e2
      exact op_modN pins s σ H _ _ v u Q I rx ry ⟨_, _, rfl, rfl, hc, ans_d S hz (.int _)⟩
    · cases hw
  · cases hw
theorem or_pow : OpR X (binaryOp .Pow) (rOp X.K fun x y m => optR (bop .pow x y) m) := by
  intro pins s σ H x y v u Q I rx ry h
  obtain ⟨m, g, dx, dy, S, hx, hy, hz⟩ := h
  obtain ⟨w, hw, hz⟩ := Rz.opt hz
  replace hw : powD dx dy = some w := hw
  unfold powD at hw
  split at hw
  · split at hw
    · rename_i hc
      cases hw
      have e1 := hx.int; have e2 := hy.int; subst e1 e2
      exact op_pow pins s σ H _ _ v u Q I rx ry ⟨_, _, rfl, rfl, ⟨hc.1, by omega, hc.2.2⟩, ans_d S hz (.int _)⟩
    · cases hw
  · cases hw
/-! comparisons -/
theorem or_cmp {op : CmpOp} {o : Cop} {r : R2} (h : OpR X (compareOp op) r) (w : ∀ m g dx dy x y H Q c, SimM X.K m g H → Rr X.K g.F H x dx → Rr X.K g.F H y dy → cmp o dx dy = some c → Q (.bl c) H → r x y H Q) : OpR X (compareOp op) (rOp X.K (cmpR o)) := by
  intro pins s σ H x y v u Q I rx ry q
  obtain ⟨m, g, dx, dy, S, hx, hy, hz⟩ := q
  obtain ⟨c, hc, hz⟩ := Rz.optBind hz
  exact h pins s σ H x y v u Q I rx ry (w m g dx dy x y H Q c S hx hy hc (ans_d S hz (.bl c)))
theorem or_lt (hu : X.A.units + 200 < cLine) : OpR X (compareOp .Lt) (rOp X.K (cmpR .lt)) := by
  intro pins s σ H x y v u Q I rx ry q
  obtain ⟨m, g, dx, dy, S, hx, hy, hz⟩ := q
  obtain ⟨c, hc, hz⟩ := Rz.optBind hz
  simp only [cmp] at hc
  unfold ltD at hc
  split at hc
  · cases hc
    have e1 := hx.int; have e2 := hy.int; subst e1 e2
    exact op_lt pins s σ H _ _ v u Q I rx ry ⟨_, _, rfl, rfl, ans_d S hz (.bl _)⟩
  · cases hc
    have e1 := hx.str; have e2 := hy.str; subst e1 e2
    exact op_lt_str pins s σ H _ _ v u Q I rx ry ⟨_, _, rfl, rfl, ans_d S hz (.bl _)⟩
  · split at hc
    · rename_i hd
      cases hc
      obtain ⟨as, r1⟩ := Dp.reads I _ x v hx.dp rx
      obtain ⟨bs, r2⟩ := Dp.reads I _ y u hy.dp ry
      obtain ⟨ha, hd'⟩ := Bool.and_eq_true_iff.mp hd
      have hd2 : min (PyData.depth (.tuple _)) (PyData.depth (.tuple _)) ≤ 64 := of_decide_eq_true hd'
      exact PySem.W.rcLt_alike _ _ X.A s v u as bs r1 r2 ha (by simp) (by omega) X.prog X.w X.xe _ ⟨.bl _, H, I, rfl, ans_d S hz (.bl _)⟩
    · cases hc
  · cases hc
theorem or_le : OpR X (compareOp .LtE) (rOp X.K (cmpR .le)) := by
  intro pins s σ H x y v u Q I rx ry q
  obtain ⟨m, g, dx, dy, S, hx, hy, hz⟩ := q
  obtain ⟨c, hc, hz⟩ := Rz.optBind hz
  simp only [cmp] at hc
  unfold leD at hc
  split at hc
  · cases hc
    have e1 := hx.int; have e2 := hy.int; subst e1 e2
    exact op_le pins s σ H _ _ v u Q I rx ry ⟨_, _, rfl, rfl, ans_d S hz (.bl _)⟩
  · cases hc
    have e1 := hx.str; have e2 := hy.str; subst e1 e2
    exact op_le_str pins s σ H _ _ v u Q I rx ry ⟨_, _, rfl, rfl, ans_d S hz (.bl _)⟩
  · cases hc
theorem or_gt : OpR X (compareOp .Gt) (rOp X.K (cmpR .gt)) := by
  refine or_cmp op_gt fun m g dx dy x y H Q c S hx hy hc q => ?_
  simp only [cmp] at hc
  unfold gtD at hc
  split at hc
  · cases hc
    have e1 := hx.int; have e2 := hy.int; subst e1 e2
    exact ⟨_, _, rfl, rfl, q⟩
  · cases hc
theorem or_ge : OpR X (compareOp .GtE) (rOp X.K (cmpR .ge)) := by
  refine or_cmp op_ge fun m g dx dy x y H Q c S hx hy hc q => ?_
  simp only [cmp] at hc
  unfold geD at hc
  split at hc
  · cases hc
    have e1 := hx.int; have e2 := hy.int; subst e1 e2
    exact ⟨_, _, rfl, rfl, q⟩
  · cases hc
theorem or_eq (hu : X.A.units + 200 < cLine) : OpR X (compareOp .Eq) (rOp X.K (cmpR .eq)) := by
  intro pins s σ H x y v u Q I rx ry q
  obtain ⟨m, g, dx, dy, S, hx, hy, hz⟩ := q
  obtain ⟨c, hc, hz⟩ := Rz.optBind hz
  simp only [cmp] at hc
  split at hc
  · rename_i hd
    cases hc
    obtain ⟨as, r1⟩ := Dp.reads I dx x v hx.dp rx
    obtain ⟨bs, r2⟩ := Dp.reads I dy y u hy.dp ry
    have hd' : min dx.depth dy.depth ≤ 64 := of_decide_eq_true hd
    exact SeqAt.compareEq_reads r1 r2 hx.lay hy.lay (by omega) ⟨.bl _, H, I, rfl, ans_d S hz (.bl _)⟩
  · cases hc
theorem or_ne (hu : X.A.units + 200 < cLine) : OpR X (compareOp .NotEq) (rOp X.K (cmpR .ne)) := by
  intro pins s σ H x y v u Q I rx ry q
  obtain ⟨m, g, dx, dy, S, hx, hy, hz⟩ := q
  obtain ⟨c, hc, hz⟩ := Rz.optBind hz
  simp only [cmp] at hc
  split at hc
  · rename_i hd
    cases hc
    obtain ⟨as, r1⟩ := Dp.reads I dx x v hx.dp rx
    obtain ⟨bs, r2⟩ := Dp.reads I dy y u hy.dp ry
    have hd' : min dx.depth dy.depth ≤ 64 := of_decide_eq_true hd
    exact SeqAt.compareNe_reads r1 r2 hx.lay hy.lay (by omega) ⟨.bl _, H, I, rfl, ans_d S hz (.bl _)⟩
  · cases hc
theorem or_in (hu : X.A.units + 200 < cLine) : OpR X (compareOp .In) (rOp X.K (cmpR .isin)) := by
  intro pins s σ H x y v u Q I rx ry q
  obtain ⟨m, g, dx, dy, S, hx, hy, hz⟩ := q
  obtain ⟨c, hc, hz⟩ := Rz.optBind hz
  simp only [cmp] at hc
  unfold inD at hc
  split at hc
  · cases hc
    have e1 := hx.str; have e2 := hy.str; subst e1 e2
    exact op_in_str pins s σ H _ _ v u Q I rx ry ⟨_, _, rfl, rfl, ans_d S hz (.bl _)⟩
  · unfold inAll at hc
    split at hc
    · rename_i hd
      cases hc
      obtain ⟨as, r1⟩ := Dp.reads I _ x v hx.dp rx
      obtain ⟨bs, r2⟩ := Dp.reads I _ y u hy.dp ry
      exact SeqAt.in_list_reads r2 r1 hy.lay hx.lay (by omega) ⟨.bl _, H, I, rfl, ans_d S hz (.bl _)⟩
    · cases hc
  · unfold inAll at hc
    split at hc
    · rename_i hd
      cases hc
      obtain ⟨as, r1⟩ := Dp.reads I _ x v hx.dp rx
      obtain ⟨bs, r2⟩ := Dp.reads I _ y u hy.dp ry
      exact SeqAt.in_tuple_reads r2 r1 hy.lay hx.lay (by omega) ⟨.bl _, H, I, rfl, ans_d S hz (.bl _)⟩
    · cases hc
  · cases hc
theorem or_notin (hu : X.A.units + 200 < cLine) : OpR X (compareOp .NotIn) (rOp X.K (cmpR .notin)) := by
  intro pins s σ H x y v u Q I rx ry q
  obtain ⟨m, g, dx, dy, S, hx, hy, hz⟩ := q
  obtain ⟨c, hc, hz⟩ := Rz.optBind hz
  simp only [cmp, Option.map_eq_some_iff] at hc
  obtain ⟨c', hc, rfl⟩ := hc
  unfold inD at hc
  split at hc
  · cases hc
    have e1 := hx.str; have e2 := hy.str; subst e1 e2
    exact op_notin_str pins s σ H _ _ v u Q I rx ry ⟨_, _, rfl, rfl, ans_d S hz (.bl _)⟩
  · unfold inAll at hc
    split at hc
    · rename_i hd
      cases hc
      obtain ⟨as, r1⟩ := Dp.reads I _ x v hx.dp rx
      obtain ⟨bs, r2⟩ := Dp.reads I _ y u hy.dp ry
      exact SeqAt.notIn_list_reads r2 r1 hy.lay hx.lay (by omega) ⟨.bl _, H, I, rfl, ans_d S hz (.bl _)⟩
    · cases hc
  · unfold inAll at hc
    split at hc
    · rename_i hd
      cases hc
      obtain ⟨as, r1⟩ := Dp.reads I _ x v hx.dp rx
      obtain ⟨bs, r2⟩ := Dp.reads I _ y u hy.dp ry
      exact SeqAt.notIn_tuple_reads r2 r1 hy.lay hx.lay (by omega) ⟨.bl _, H, I, rfl, ans_d S hz (.bl _)⟩
    · cases hc
  · cases hc
end
end Ra


set_option Elab.async false
set_option linter.all false
set_option autoImplicit false
set_option maxRecDepth 100000
/-! expressions by the evaluator -/
namespace Ra
open PySem PySem.Spec PyProof.Rows L2
def notStar : Expr → Bool
  | .Starred _ _ => false
  | _ => true
theorem star1 {e : Expr} (h : notStar e = true) (es : List Expr) (env : PySem.Env) : starEach (e :: es) env = (false, eval e env) :: starEach es env := by
  cases e <;> first | rfl | (cases h; done)
theorem star_plain (env : PySem.Env) (pos : Pos) : ∀ (es : List Expr), es.all notStar = true → (backTo pos (starEach es env)).any (·.1) = false
  | [], _ => rfl
  | e :: es, h => by
    obtain ⟨h1, h2⟩ := Bool.and_eq_true_iff.mp (show (notStar e && es.all notStar) = true from h)
    rw [star1 h1]
    have ih := star_plain env pos es h2
    simp only [backTo, List.map_cons, List.any_cons] at ih ⊢
    simpa using ih
section
variable {X : Cx} {e : Expr} {es : List Expr} {p : P} {ps : List P} {pos : Pos}
theorem pa_items_nil : PA X [] (tIt X.K (cItems [])) := PA.weak pa_nil fun σ H Q ⟨env, m, g, hs, hm, hz⟩ => Rz.ok_now hz hm [] .nil
theorem pa_items_cons (ha : PE X e (tE X.K p.v)) (hr : PA X es (tIt X.K (cItems ps))) (ns : notStar e = true) : PA X (e :: es) (tIt X.K (cItems (p :: ps))) := by
  refine PA.weak (pa_cons ha hr (star1 ns _ _)) fun σ H Q ⟨env, m, g, hs, hm, hz⟩ => ?_
  refine ⟨env, m, g, hs, hm, (Rz.bind hz).mono fun v m1 g1 H1 e1 s1 z1 x rx => ?_⟩
  cases hf : frz v m1 with
  | fail => rw [hf] at z1; exact z1.elim
  | exc a b => rw [hf] at z1; exact z1.elim
  | ok d m2 =>
    rw [hf, Res.bind_ok] at z1
    obtain ⟨g2, s2, e2, r2⟩ := s1.frz rx hf
    refine ⟨env, m2, g2, (hs.ext e1).ext e2, s2, (Rz.bind (z1.ext e2)).mono fun ds m3 g3 H3 e3 s3 z3 xs rxs => ?_⟩
    exact Rz.ok_now z3 s3 (x :: xs) (.cons (Rp.ext e3 _ r2) rxs)
theorem pa_args_nil : PA X [] (tAr X.K (cArgs [])) := PA.weak pa_nil fun σ H Q ⟨env, m, g, hs, hm, hz⟩ => Rz.ok_now hz hm [] .nil
theorem pa_args_cons (ha : PE X e (tE X.K p.v)) (hr : PA X es (tAr X.K (cArgs ps))) (ns : notStar e = true) : PA X (e :: es) (tAr X.K (cArgs (p :: ps))) := by
  refine PA.weak (pa_cons ha hr (star1 ns _ _)) fun σ H Q ⟨env, m, g, hs, hm, hz⟩ => ?_
  refine ⟨env, m, g, hs, hm, (Rz.bind hz).mono fun v m1 g1 H1 e1 s1 z1 x rx => ?_⟩
  obtain ⟨g2, s2, e2, r2⟩ := s1.hold rx
  refine ⟨env, m1, g2, (hs.ext e1).ext e2, s2, (Rz.bind (z1.ext e2)).mono fun vs m3 g3 H3 e3 s3 z3 xs rxs => ?_⟩
  exact Rz.ok_now z3 s3 (x :: xs) (.cons (r2.ext e3 (nf_ne v)) (nf_ne v) rxs)
/-- the display of so many items is within the line -/
theorem items_len : ∀ (ps : List P) {env : Env} {m : Mem} {ds : List PyData} {m' : Mem}, cItems ps env m = .ok ds m' → ds.length = ps.length
  | [], env, m, ds, m', h => by
    simp only [cItems, Res.ok.injEq] at h
    rw [← h.1]; rfl
  | p :: ps, env, m, ds, m', h => by
    simp only [cItems] at h
    cases h1 : p.v env m with
    | fail => rw [h1] at h; simp at h
    | exc a b => rw [h1] at h; simp at h
    | ok v m1 =>
      rw [h1] at h; simp only [Res.bind_ok] at h
      cases h2 : frz v m1 with
      | fail => rw [h2] at h; simp at h
      | exc a b => rw [h2] at h; simp at h
      | ok d m2 =>
        rw [h2] at h; simp only [Res.bind_ok] at h
        cases h3 : cItems ps env m2 with
        | fail => rw [h3] at h; simp at h
        | exc a b => rw [h3] at h; simp at h
        | ok ds' m3 =>
          rw [h3] at h; simp only [Res.bind_ok, Res.ok.injEq] at h
          rw [← h.1, List.length_cons, items_len ps h3, List.length_cons]
theorem tup_ok {σ : L2.St} {H : Hp} {Q : VK} (hl : ps.length ≤ 1000) (h : tE X.K (cTup ps) σ H Q) : tTup (tIt X.K (cItems ps)) σ H Q := by
  obtain ⟨env, m, g, hs, hm, hz⟩ := h
  have hz' := Rz.bind hz
  refine ⟨env, m, g, hs, hm, ?_⟩
  cases h1 : cItems ps env m with
  | fail => rw [h1] at hz'; exact hz'.elim
  | exc a b => rw [h1] at hz'; exact hz'.elim
  | ok ds m1 =>
    rw [h1] at hz'
    intro g1 H1 e1 s1 xs rxs
    have hlen : xs.length ≤ sizeLine := by
      rw [rxs.length, items_len ps h1, sizeLine_eq]; omega
    exact ⟨hlen, fun q hq => ans_t s1 (hz' g1 H1 e1 s1) rxs hlen hq⟩
theorem lst_ok {σ : L2.St} {H : Hp} {Q : VK} (hl : ps.length ≤ 1000) (h : tE X.K (cLst ps) σ H Q) : tLst (tIt X.K (cItems ps)) σ H Q := by
  obtain ⟨env, m, g, hs, hm, hz⟩ := h
  have hz' := Rz.bind hz
  refine ⟨env, m, g, hs, hm, ?_⟩
  cases h1 : cItems ps env m with
  | fail => rw [h1] at hz'; exact hz'.elim
  | exc a b => rw [h1] at hz'; exact hz'.elim
  | ok ds m1 =>
    rw [h1] at hz'
    intro g1 H1 e1 s1 xs rxs
    have hlen : xs.length ≤ sizeLine := by
      rw [rxs.length, items_len ps h1, sizeLine_eq]; omega
    exact ⟨hlen, fun q hq => ans_l s1 (hz' g1 H1 e1 s1) rxs hlen hq⟩
theorem pe_tupR {k : Nat} (h : PA X es (tIt X.K (cItems ps))) (hl : ps.length ≤ 1000) : PE X (.Tuple es k pos) (tE X.K (cTup ps)) := PE.weak (pe_tup h) fun _ _ _ q => tup_ok hl q
theorem pe_lstR (h : PA X es (tIt X.K (cItems ps))) (hl : ps.length ≤ 1000) : PE X (.List es pos) (tE X.K (cLst ps)) := PE.weak (pe_lst h) fun _ _ _ q => lst_ok hl q
/-! truth -/
theorem tru_of {K : PySem.W.Frag} {F : Addr → Prop} {H : Hp} {x : V} {d : PyData} {b : Bool} (h : Rr K F H x d) (e : truth d = some b) : TruV K x H b := by
  cases d with
  | none => rw [h.none]; exact (Option.some.inj e).symm
  | bool c => rw [h.bool]; exact (Option.some.inj e).symm
  | int i => rw [h.int]; exact (Option.some.inj e).symm
  | str z =>
    have hz := sok_len h.sok
    rw [h.str]
    have hi : (z.length != 0) = ((z.length : Int) != 0) := by cases z.length <;> rfl
    exact ⟨hz, by rw [← hi]; exact (Option.some.inj e).symm⟩
  | list xs =>
    obtain ⟨a, vs, rfl, h1, h2⟩ := h.lst
    have hl := h2.length
    refine .inl ⟨vs, .inl h1, ?_⟩
    rw [← Option.some.inj e]
    cases vs <;> cases xs <;> simp_all
  | tuple xs =>
    obtain ⟨a, vs, rfl, h1, h2⟩ := h.tup
    have hl := h2.length
    refine .inr (.inl ⟨vs, h1, ?_⟩)
    rw [← Option.some.inj e]
    cases vs <;> cases xs <;> simp_all
  | dict _ => cases e
theorem truR_ok {K : PySem.W.Frag} {m : Mem} {g : G} {H : Hp} {x : V} {v : Val} {β : Type} {f : Bool → Mem → Res β} {Q : β → Mem → G → Hp → Prop} (S : SimM K m g H) (h : RpV K g H x v) (hz : Rz K ((truR v m).bind f) g H Q) :
    ∃ b, TruV K x H b ∧ Rz K (f b m) g H Q := by
  obtain ⟨g', s', e', r'⟩ := S.hold h
  unfold truR at hz
  cases h1 : rd m v with
  | none => rw [rdR, h1] at hz; exact hz.elim
  | some d =>
    rw [rdR, h1] at hz
    simp only [optR_some, Res.bind_ok] at hz
    obtain ⟨b, hb, hz⟩ := Rz.optBind hz
    have h2 : rd m v.nf = some d := by
      cases v <;> exact h1
    exact ⟨b, tru_of (s'.read (nf_ne v) r' h2) hb, hz⟩
/-- a plain expression as a test -/
theorem pt_R (ha : PE X e (tE X.K p.v)) (he : ∀ whole, isTrue e X.env whole = (do let v ← whole; standAt e.pos; holding [v] (truthy v))) (hp : p.t = (ofV p.v).t) : PT X e (tT X.K p.t) := by
  refine PT.weak (pt_truth ha he) fun σ H Q ⟨env, m, g, hs, hm, hz⟩ => ?_
  rw [hp] at hz
  refine ⟨env, m, g, hs, hm, (Rz.bind hz).mono fun v m1 g1 H1 e1 s1 z1 x rx => ?_⟩
  have z2 : Rz X.K ((truR v m1).bind fun b m2 => .ok b m2) g1 H1 fun b _ _ H' => Q b H' := by
    have : (truR v m1).bind (fun b m2 => Res.ok b m2) = truR v m1 := by
      cases truR v m1 <;> rfl
    rw [this]; exact z1
  obtain ⟨b, hb, z3⟩ := truR_ok s1 rx z2
  exact ⟨b, hb, Rz.ok_now z3 s1⟩
/-! and, or, not, if -/
theorem pe_andR1 (ha : PE X e (tE X.K p.v)) : PE X (.BoolOp .And [e] pos) (tE X.K (cAnd [p])) := pe_one ha
theorem pe_orR1 (ha : PE X e (tE X.K p.v)) : PE X (.BoolOp .Or [e] pos) (tE X.K (cOr [p])) := pe_one ha
theorem pe_andR {e' : Expr} {p' : P} (ha : PE X e (tE X.K p.v)) (hb : PE X (.BoolOp .And (e' :: es) pos) (tE X.K (cAnd (p' :: ps)))) : PE X (.BoolOp .And (e :: e' :: es) pos) (tE X.K (cAnd (p :: p' :: ps))) := by
  refine PE.weak (pe_andT ha hb) fun σ H Q ⟨env, m, g, hs, hm, hz⟩ => ?_
  refine ⟨env, m, g, hs, hm, (Rz.bind hz).mono fun v m1 g1 H1 e1 s1 z1 x rx => ?_⟩
  obtain ⟨b, hb, z2⟩ := truR_ok s1 rx z1
  refine ⟨b, hb, ?_⟩
  cases b with
  | true => exact ⟨env, m1, g1, hs.ext e1, s1, z2⟩
  | false => exact Rz.ok_now z2 s1 x rx
theorem pe_orR {e' : Expr} {p' : P} (ha : PE X e (tE X.K p.v)) (hb : PE X (.BoolOp .Or (e' :: es) pos) (tE X.K (cOr (p' :: ps)))) : PE X (.BoolOp .Or (e :: e' :: es) pos) (tE X.K (cOr (p :: p' :: ps))) := by
  refine PE.weak (pe_orT ha hb) fun σ H Q ⟨env, m, g, hs, hm, hz⟩ => ?_
  refine ⟨env, m, g, hs, hm, (Rz.bind hz).mono fun v m1 g1 H1 e1 s1 z1 x rx => ?_⟩
  obtain ⟨b, hb, z2⟩ := truR_ok s1 rx z1
  refine ⟨b, hb, ?_⟩
  cases b with
  | true => exact Rz.ok_now z2 s1 x rx
  | false => exact ⟨env, m1, g1, hs.ext e1, s1, z2⟩
theorem pw_andR1 (ha : PT X e (tT X.K p.t)) : PW X (.BoolOp .And [e] pos) (tT X.K (tAnd [p])) := pw_and1 ha
theorem pw_orR1 (ha : PT X e (tT X.K p.t)) : PW X (.BoolOp .Or [e] pos) (tT X.K (tOr [p])) := pw_or1 ha
theorem pw_andR {e' : Expr} {p' : P} (ha : PT X e (tT X.K p.t)) (hb : PW X (.BoolOp .And (e' :: es) pos) (tT X.K (tAnd (p' :: ps)))) : PW X (.BoolOp .And (e :: e' :: es) pos) (tT X.K (tAnd (p :: p' :: ps))) := by
  refine PW.weak (pw_and ha hb) fun σ H Q ⟨env, m, g, hs, hm, hz⟩ => ?_
  refine ⟨env, m, g, hs, hm, (Rz.bind hz).mono fun b m1 g1 H1 e1 s1 z1 => ?_⟩
  cases b with
  | true => exact ⟨env, m1, g1, hs.ext e1, s1, z1⟩
  | false => exact Rz.ok_now z1 s1
theorem pw_orR {e' : Expr} {p' : P} (ha : PT X e (tT X.K p.t)) (hb : PW X (.BoolOp .Or (e' :: es) pos) (tT X.K (tOr (p' :: ps)))) : PW X (.BoolOp .Or (e :: e' :: es) pos) (tT X.K (tOr (p :: p' :: ps))) := by
  refine PW.weak (pw_or ha hb) fun σ H Q ⟨env, m, g, hs, hm, hz⟩ => ?_
  refine ⟨env, m, g, hs, hm, (Rz.bind hz).mono fun b m1 g1 H1 e1 s1 z1 => ?_⟩
  cases b with
  | true => exact Rz.ok_now z1 s1
  | false => exact ⟨env, m1, g1, hs.ext e1, s1, z1⟩
theorem pe_notR (ha : PE X e (tE X.K p.v)) : PE X (.UnaryOp .Not e pos) (tE X.K fun env m => (p.v env m).bind fun v m1 => (truR v m1).bind fun t m2 => boolR (!t) m2) := by
  refine PE.weak (pe_notT ha) fun σ H Q ⟨env, m, g, hs, hm, hz⟩ => ?_
  refine ⟨env, m, g, hs, hm, (Rz.bind hz).mono fun v m1 g1 H1 e1 s1 z1 x rx => ?_⟩
  obtain ⟨b, hb, z2⟩ := truR_ok s1 rx z1
  exact ⟨b, hb, ans_d s1 z2 (.bl _)⟩
theorem pt_notR (ha : PT X e (tT X.K p.t)) : PT X (.UnaryOp .Not e pos) (tT X.K fun env m => (p.t env m).bind fun t m1 => .ok (!t) m1) := by
  refine PT.weak (pt_not ha) fun σ H Q ⟨env, m, g, hs, hm, hz⟩ => ?_
  exact ⟨env, m, g, hs, hm, (Rz.bind hz).mono fun b m1 g1 H1 e1 s1 z1 => Rz.ok_now z1 s1⟩
theorem pe_iteR {c a b : Expr} {pc pa pb : P} (hc : PT X c (tT X.K pc.t)) (ha : PE X a (tE X.K pa.v)) (hb : PE X b (tE X.K pb.v)) :
    PE X (.IfExp c a b pos) (tE X.K fun env m => (pc.t env m).bind fun t m1 => if t = true then pa.v env m1 else pb.v env m1) := by
  refine PE.weak (pe_ifExp hc ha hb) fun σ H Q ⟨env, m, g, hs, hm, hz⟩ => ?_
  refine ⟨env, m, g, hs, hm, (Rz.bind hz).mono fun b m1 g1 H1 e1 s1 z1 => ?_⟩
  cases b with
  | true => exact ⟨env, m1, g1, hs.ext e1, s1, z1⟩
  | false => exact ⟨env, m1, g1, hs.ext e1, s1, z1⟩
/-- comparisons -/
theorem pe_cmpE {a b : Expr} {op : CmpOp} {o : Cop} {pa pb : P} (ho : OpR X (compareOp op) (rOp X.K (cmpR o))) (hm : behindInMarks op b = false) (ha : PE X a (tE X.K pa.v)) (hb : PE X b (tE X.K pb.v)) :
    PE X (.Compare a [op] [b] pos) (tE X.K (c2 pa pb (cmpR o))) := PE.weak (pe_cmpR ho ha hb hm) fun _ _ _ h => c2_ok h
theorem c2_bool {K : PySem.W.Frag} {pa pb : P} {o : Cop} {σ : L2.St} {H : Hp} {Q : Bool → Hp → Prop} (h : tT K (ofV (c2 pa pb (cmpR o))).t σ H Q) :
    tE K (c2 pa pb (cmpR o)) σ H fun x H' => ∃ k, x = .bl k ∧ Q k H' := by
  obtain ⟨env, m, g, hs, hm, hz⟩ := h
  refine ⟨env, m, g, hs, hm, ?_⟩
  have key : ∀ r : Res Val, (∃ (q : Res Bool), r = q.bind boolR) → Rz K (r.bind truR) g H (fun b _ _ H' => Q b H') → Rz K r g H fun v _ g' H' => ∀ x, RpV K g' H' x v → ∃ k, x = .bl k ∧ Q k H' := by
    rintro _ ⟨q, rfl⟩ z
    cases q with
    | fail => exact z.elim
    | exc a b => exact z.elim
    | ok c m1 =>
      intro g1 H1 e1 s1 x rx
      cases rx
      exact ⟨c, rfl, z g1 H1 e1 s1⟩
  refine key _ ?_ hz
  unfold c2
  cases pa.v env m with
  | fail => exact ⟨.fail, rfl⟩
  | exc a b => exact ⟨.exc a b, rfl⟩
  | ok va m1 =>
    simp only [Res.bind_ok]
    cases pb.v env m1 with
    | fail => exact ⟨.fail, rfl⟩
    | exc a b => exact ⟨.exc a b, rfl⟩
    | ok vb m2 =>
      simp only [Res.bind_ok, rdR]
      cases rd m2 va.nf with
      | none => exact ⟨.fail, rfl⟩
      | some x =>
        simp only [optR_some, Res.bind_ok]
        cases rd m2 vb.nf with
        | none => exact ⟨.fail, rfl⟩
        | some y => exact ⟨_, rfl⟩
theorem pt_cmpE {a b : Expr} {op : CmpOp} {o : Cop} {pa pb : P} (ho : OpR X (compareOp op) (rOp X.K (cmpR o))) (hm : behindInMarks op b = false) (ha : PE X a (tE X.K pa.v)) (hb : PE X b (tE X.K pb.v)) :
    PT X (.Compare a [op] [b] pos) (tT X.K (ofV (c2 pa pb (cmpR o))).t) :=
  PT.weak (pt_cmpR ho ha hb hm) fun _ _ _ h => c2_ok (c2_bool h)
end
end Ra


set_option Elab.async false
set_option linter.all false
set_option autoImplicit false
set_option maxRecDepth 100000
/-! expressions by the evaluator: subscripts, calls -/
namespace Ra
open PySem PySem.Spec PyProof.Rows L2
section
variable {X : Cx} {e : Expr} {es : List Expr} {p : P} {ps : List P} {pos : Pos}
theorem pe_badR (e : Expr) : PE X e (tE X.K fun _ _ => .fail) := ⟨fun pins s σ H Q I ⟨env, m, g, hs, hm, hz⟩ => hz.elim⟩
theorem pe_varR {i : Nat} {x : Str} (hN : X.N[i]? = some x) (hv : Vis X.env.scope x) (hd : (x == ("__debug__" : Str)) = false) (hcd : (x == ("__classdict__" : Str)) = false) : PE X (.Name x pos) (tE X.K fun env m => optR (getV env i) m) := by
  refine PE.weak (pe_var hN hv hd hcd) fun σ H Q ⟨env, m, g, hs, hm, hz⟩ => ?_
  obtain ⟨v, hv', hz⟩ := Rz.opt hz
  obtain ⟨y, h1, h2, h3⟩ := hs.at_ i v hv'
  exact ⟨y, h1, Rz.ok_now hz hm y h2⟩
theorem cst_ok {v : V} {d : PyData} (h : ∀ F H, Rp X.K F H v d) (he : PE X e (tC v)) : PE X e (tE X.K fun _ m => .ok (.d d) m) :=
  PE.weak he fun σ H Q ⟨env, m, g, hs, hm, hz⟩ => Rz.ok_now hz hm v (h _ _)
/-- a value that holds no list -/
def flatD : PyData → Option V
  | .none => some .non
  | .bool b => some (.bl b)
  | .int i => some (.int i)
  | .str s => if sOk s = true then some (.str s) else none
  | _ => none
theorem flat_rp {K : PySem.W.Frag} {d : PyData} {v : V} (h : flatD d = some v) (F : Addr → Prop) (H : Hp) : Rp K F H v d := by
  cases d with
  | none => cases h; exact .non
  | bool b => cases h; exact .bl b
  | int i => cases h; exact .int i
  | str s =>
    simp only [flatD] at h
    split at h
    · rename_i hs
      cases h; exact .str s hs
    · cases h
  | list _ => cases h
  | tuple _ => cases h
  | dict _ => cases h
/-! chains -/
theorem chain_ok {K : PySem.W.Frag} {pa pb pc : P} {o o' : Cop} {σ : L2.St} {H : Hp} {Q : VK} (h : tE K (cChain o o' pa pb pc) σ H Q) :
    tChain (rOp K (cmpR o)) (rOp K (cmpR o')) (tE K pa.v) (tE K pb.v) (tE K pc.v) σ H Q := by
  obtain ⟨env, m, g, hs, hm, hz⟩ := h
  refine ⟨env, m, g, hs, hm, (Rz.bind hz).mono fun va m1 g1 H1 e1 s1 z1 x rx => ?_⟩
  obtain ⟨g1', s1', e1', rx'⟩ := s1.hold rx
  refine ⟨env, m1, g1', (hs.ext e1).ext e1', s1', (Rz.bind (z1.ext e1')).mono fun vb m2 g2 H2 e2 s2 z2 y ry => ?_⟩
  obtain ⟨g2', s2', e2', ry'⟩ := s2.hold ry
  obtain ⟨dx, hx, z3⟩ := Rz.rdBind (z2.ext e2')
  obtain ⟨dy, hy, z4⟩ := Rz.rdBind z3
  obtain ⟨t, ht, z5⟩ := Rz.optBind z4
  have hs2 : Sg K env σ g2' H2 := (((hs.ext e1).ext e1').ext e2).ext e2'
  refine ⟨m2, g2', dx, dy, s2', s2'.read (nf_ne va) (RpV.ext (e2.trans e2') (nf_ne va) rx') hx, s2'.read (nf_ne vb) ry' hy, ?_⟩
  unfold cmpR
  rw [ht]
  intro g3 H3 e3 s3 z rz
  cases rz
  refine ⟨t, rfl, ?_⟩
  cases t with
  | false => exact ans_d s3 (z5.ext e3) (.bl false)
  | true =>
    simp only [if_true] at z5 ⊢
    refine ⟨env, m2, g3, hs2.ext e3, s3, (Rz.bind (z5.ext e3)).mono fun vc m6 g6 H6 e6 s6 z6 w rw_ => ?_⟩
    obtain ⟨g7, s7, e7, rw7⟩ := s6.hold rw_
    obtain ⟨dy', hy', z7⟩ := Rz.rdBind (z6.ext e7)
    obtain ⟨dz, hz', z8⟩ := Rz.rdBind z7
    exact ⟨m6, g7, dy', dz, s7, s7.read (nf_ne vb) (RpV.ext ((e3.trans e6).trans e7) (nf_ne vb) ry') hy', s7.read (nf_ne vc) rw7 hz', z8⟩
theorem pe_chainE {a b c : Expr} {op op' : CmpOp} {o o' : Cop} {pa pb pc : P} (ho : OpR X (compareOp op) (rOp X.K (cmpR o))) (ho' : OpR X (compareOp op') (rOp X.K (cmpR o'))) (hm : lastMarks [op, op'] [b, c] = false)
    (ha : PE X a (tE X.K pa.v)) (hb : PE X b (tE X.K pb.v)) (hc : PE X c (tE X.K pc.v)) : PE X (.Compare a [op, op'] [b, c] pos) (tE X.K (cChain o o' pa pb pc)) :=
  PE.weak (pe_chain ho ho' ha hb hc hm) fun _ _ _ h => chain_ok h
/-! is None, minus -/
theorem none_iff {K : PySem.W.Frag} {F : Addr → Prop} {H : Hp} {x : V} {d : PyData} (h : Rr K F H x d) : isNone d = decide (x = .non) := by
  cases d with
  | none => rw [h.none]; rfl
  | bool b => rw [h.bool]; rfl
  | int b => rw [h.int]; rfl
  | str b => rw [h.str]; rfl
  | list b => obtain ⟨a, xs, rfl, _⟩ := h.lst; rfl
  | tuple b => obtain ⟨a, xs, rfl, _⟩ := h.tup; rfl
  | dict b => cases h
theorem pe_isNR {a : Expr} {k : Nat} {q : Pos} (ha : PE X a (tE X.K p.v)) : PE X (.Compare a [.Is] [.Constant .none k q] pos) (tE X.K (c1 p fun x m => boolR (isNone x) m)) := by
  refine PE.weak (pe_cmpR op_isN ha pe_non (nomark _)) fun σ H Q h => ?_
  obtain ⟨env, m, g, hs, hm, hz⟩ := c1_ok h
  refine ⟨env, m, g, hs, hm, hz.mono fun v m1 g1 H1 e1 s1 z1 x rx => ⟨rfl, ?_⟩⟩
  obtain ⟨m2, g2, d, s2, r2, z2⟩ := z1 x rx
  rw [← none_iff r2]
  exact ans_d s2 z2 (.bl _)
theorem pe_isnNR {a : Expr} {k : Nat} {q : Pos} (ha : PE X a (tE X.K p.v)) : PE X (.Compare a [.IsNot] [.Constant .none k q] pos) (tE X.K (c1 p fun x m => boolR (!isNone x) m)) := by
  refine PE.weak (pe_cmpR op_notN ha pe_non (nomark _)) fun σ H Q h => ?_
  obtain ⟨env, m, g, hs, hm, hz⟩ := c1_ok h
  refine ⟨env, m, g, hs, hm, hz.mono fun v m1 g1 H1 e1 s1 z1 x rx => ⟨rfl, ?_⟩⟩
  obtain ⟨m2, g2, d, s2, r2, z2⟩ := z1 x rx
  rw [← none_iff r2]
  exact ans_d s2 z2 (.bl _)
theorem pe_negR {a : Expr} (ha : PE X a (tE X.K p.v)) : PE X (.UnaryOp .USub a pos) (tE X.K (c1 p fun x m => match x with
      | .int i => .ok (.d (.int (-i))) m
      | _ => .fail)) := by
  refine PE.weak (pe_un un_neg ha) fun σ H Q h => ?_
  obtain ⟨env, m, g, hs, hm, hz⟩ := c1_ok h
  refine ⟨env, m, g, hs, hm, hz.mono fun v m1 g1 H1 e1 s1 z1 x rx => ?_⟩
  obtain ⟨m2, g2, d, s2, r2, z2⟩ := z1 x rx
  cases d with
  | int i => exact ⟨i, r2.int, ans_d s2 z2 (.int _)⟩
  | none => exact z2.elim
  | bool _ => exact z2.elim
  | str _ => exact z2.elim
  | list _ => exact z2.elim
  | tuple _ => exact z2.elim
  | dict _ => exact z2.elim
/-! subscripts -/
theorem RpAll.atI {K : PySem.W.Frag} {F : Addr → Prop} {H : Hp} {xs : List V} {ds : List PyData} {i : Int} {d : PyData} (h : RpAll K F H xs ds) (e : L2.atI ds i = some d) : ∃ x, L2.atI xs i = some x ∧ Rp K F H x d := by
  unfold L2.atI at e ⊢
  rw [h.length]
  cases hj : ixN ds.length i with
  | none => rw [hj] at e; cases e
  | some j =>
    rw [hj] at e
    exact h.get e
theorem sok_one {z : Str} {c : Nat} (h : sOk z = true) (hc : c ∈ z.cps.toList) : sOk ⟨#[c]⟩ = true := by
  obtain ⟨a, _⟩ := Bool.and_eq_true_iff.mp h
  refine Bool.and_eq_true_iff.mpr ⟨?_, rfl⟩
  have := (Array.all_eq_true'.mp a) c (by simpa using hc)
  show (#[c].all (· < 0x110000)) = true
  simpa using this
theorem atI_mem {α : Type} {xs : List α} {i : Int} {c : α} (h : L2.atI xs i = some c) : c ∈ xs := by
  unfold L2.atI at h
  cases hj : ixN xs.length i with
  | none => rw [hj] at h; cases h
  | some j =>
    rw [hj] at h
    exact List.mem_of_getElem? h
theorem ix_R : IxR X (rOp X.K fun x y m => (optR (idx x y) m).bind fun z m1 => .ok (.d z) m1) := by
  intro value slice pins s σ H x y v u Q I rx ry h hs
  refine ix_seq value slice pins s σ H x y v u Q I rx ry ?_ hs
  obtain ⟨m, g, dx, dy, S, hx, hy, hz0⟩ := h
  obtain ⟨w, hw, hz⟩ := Rz.optBind hz0
  clear hz0
  unfold idx at hw
  split at hw
  · obtain ⟨a, vs, rfl, h1, h2⟩ := hx.lst
    obtain ⟨z, e1, e2⟩ := h2.atI hw
    exact .inl ⟨a, vs, _, z, rfl, hy.int, .inl h1, e1, ans_d S hz e2⟩
  · obtain ⟨a, vs, rfl, h1, h2⟩ := hx.tup
    obtain ⟨z, e1, e2⟩ := h2.atI hw
    exact .inr (.inl ⟨a, vs, _, z, rfl, hy.int, h1, e1, ans_d S hz e2⟩)
  · rename_i zs i
    obtain ⟨c, e1, e2⟩ := Option.map_eq_some_iff.mp hw
    subst e2
    exact .inr (.inr ⟨zs, i, c, hx.str, hy.int, sok_len hx.sok, e1, ans_d S hz (.str _ (sok_one hx.sok (atI_mem e1)))⟩)
  · cases hw
def notSlice : Expr → Bool
  | .Slice _ _ _ _ => false
  | _ => true
theorem plain_ix {b : Expr} (h : notSlice b = true) : PlainIx b := fun o i => by
  cases b <;> first | rfl | (cases h; done)
theorem pe_idxR {a b : Expr} {pa pb : P} (ha : PE X a (tE X.K pa.v)) (hb : PE X b (tE X.K pb.v)) (h : notSlice b = true) : PE X (.Subscript a b pos) (tE X.K (c2 pa pb fun x y m => (optR (idx x y) m).bind fun z m1 => .ok (.d z) m1)) :=
  PE.weak (pe_ix ix_R ha hb (plain_ix h)) fun _ _ _ q => c2_ok q
theorem RpAll.cut {K : PySem.W.Frag} {F : Addr → Prop} {H : Hp} {xs : List V} {ds : List PyData} (h : RpAll K F H xs ds) (lo hi : Option Int) : RpAll K F H (cutV xs lo hi) (cut ds lo hi) := by
  unfold cutV Ra.cut
  rw [h.length]
  exact (h.drop _).take _
theorem cut_whole {α : Type} {xs : List α} {lo hi : Option Int} (h : HT.sIx xs.length 0 lo = 0 ∧ HT.sIx xs.length xs.length hi = xs.length) : cut xs lo hi = xs := by
  unfold cut
  rw [h.1, h.2, List.drop_zero, Nat.sub_zero, List.take_length]
theorem sl_R : SlR X (fun x lo hi H Q => ∃ m g dx, SimM X.K m g H ∧ Rr X.K g.F H x dx ∧ Rz X.K (optR (slc dx lo hi) m) g H (Ans X.K Q)) := by
  intro pins s σ H x v vl vu lo hi sl Q I rx hs pl pu h
  obtain ⟨m, g, dx, S, hx, hz⟩ := h
  obtain ⟨w, hw, hz⟩ := Rz.opt hz
  unfold slc at hw
  split at hw
  · cases hw
    obtain ⟨a, vs, rfl, h1, h2⟩ := hx.lst
    obtain ⟨hl, _⟩ := lstR I h1
    exact sl_list pins s σ H _ v vl vu lo hi sl Q I rx hs pl pu ⟨a, vs, rfl, .inl h1, fun q hq => ans_l S hz (h2.cut lo hi) (Nat.le_trans (cutV_length vs lo hi) hl) hq⟩
  · cases hw
    obtain ⟨a, vs, rfl, h1, h2⟩ := hx.tup
    obtain ⟨its, _, _, hl⟩ := I.tuple h1
    refine sl_tupA pins s σ H _ v vl vu lo hi sl Q I rx hs pl pu ⟨a, vs, rfl, h1, fun hw => ?_, fun _ q hq => ans_t S hz (h2.cut lo hi) (Nat.le_trans (cutV_length vs lo hi) hl) hq⟩
    rw [h2.length] at hw
    rw [cut_whole hw] at hz
    exact ans_d S hz (.tup h1 h2)
  · split at hw
    · rename_i hok
      cases hw
      have hl := sok_len hx.sok
      have e := hx.str
      subst e
      exact sl_str pins s σ H _ v vl vu lo hi sl Q I rx hs pl pu ⟨_, rfl, hl, ans_d S hz (.str _ hok)⟩
    · cases hw
  · cases hw
theorem pe_slR {a : Expr} {q : Pos} (ha : PE X a (tE X.K p.v)) : PE X (.Subscript a (.Slice none none none q) pos) (tE X.K (c1 p fun x m => optR (slc x none none) m)) := by
  refine PE.weak (pe_slice sl_R ha po_none po_none) fun σ H Q h => ?_
  exact c1_ok h
theorem pe_slLR {a b : Expr} {pa pb : P} {q : Pos} (ha : PE X a (tE X.K pa.v)) (hb : PE X b (tE X.K pb.v)) : PE X (.Subscript a (.Slice (some b) none none q) pos) (tE X.K (c2 pa pb fun x l m => match l with
      | .int l => optR (slc x (some l) none) m
      | _ => .fail)) := by
  refine PE.weak (pe_slice sl_R ha (po_some hb) po_none) fun σ H Q h => ?_
  obtain ⟨env, m, g, hs, hm, hz⟩ := c2_ok h
  refine ⟨env, m, g, hs, hm, hz.mono fun v m1 g1 H1 e1 s1 z1 x rx => ?_⟩
  obtain ⟨env2, m2, g2, hs2, hm2, hz2⟩ := z1 x rx
  refine ⟨env2, m2, g2, hs2, hm2, hz2.mono fun v3 m3 g3 H3 e3 s3 z3 y ry => ?_⟩
  obtain ⟨m4, g4, dx, dy, s4, rx4, ry4, z4⟩ := z3 y ry
  cases dy with
  | int i => exact ⟨i, ry4.int, m4, g4, dx, s4, rx4, z4⟩
  | none => exact z4.elim
  | bool _ => exact z4.elim
  | str _ => exact z4.elim
  | list _ => exact z4.elim
  | tuple _ => exact z4.elim
  | dict _ => exact z4.elim
theorem pe_slUR {a b : Expr} {pa pb : P} {q : Pos} (ha : PE X a (tE X.K pa.v)) (hb : PE X b (tE X.K pb.v)) : PE X (.Subscript a (.Slice none (some b) none q) pos) (tE X.K (c2 pa pb fun x h m => match h with
      | .int h => optR (slc x none (some h)) m
      | _ => .fail)) := by
  refine PE.weak (pe_slice sl_R ha po_none (po_some hb)) fun σ H Q h => ?_
  obtain ⟨env, m, g, hs, hm, hz⟩ := c2_ok h
  refine ⟨env, m, g, hs, hm, hz.mono fun v m1 g1 H1 e1 s1 z1 x rx => ?_⟩
  obtain ⟨env2, m2, g2, hs2, hm2, hz2⟩ := z1 x rx
  refine ⟨env2, m2, g2, hs2, hm2, hz2.mono fun v3 m3 g3 H3 e3 s3 z3 y ry => ?_⟩
  obtain ⟨m4, g4, dx, dy, s4, rx4, ry4, z4⟩ := z3 y ry
  cases dy with
  | int i => exact ⟨i, ry4.int, m4, g4, dx, s4, rx4, z4⟩
  | none => exact z4.elim
  | bool _ => exact z4.elim
  | str _ => exact z4.elim
  | list _ => exact z4.elim
  | tuple _ => exact z4.elim
  | dict _ => exact z4.elim
theorem intBind {K : PySem.W.Frag} {β : Type} {g : G} {H : Hp} {x : PyData} {m : Mem} {f : Int → Mem → Res β} {Q : β → Mem → G → Hp → Prop} (h : Rz K ((intR x m).bind f) g H Q) : ∃ i, x = .int i ∧ Rz K (f i m) g H Q := by
  cases x with
  | int i => exact ⟨i, rfl, h⟩
  | none => exact h.elim
  | bool _ => exact h.elim
  | str _ => exact h.elim
  | list _ => exact h.elim
  | tuple _ => exact h.elim
  | dict _ => exact h.elim
theorem pe_slLUR {a b c : Expr} {pa pb pc : P} {q : Pos} (ha : PE X a (tE X.K pa.v)) (hb : PE X b (tE X.K pb.v)) (hc : PE X c (tE X.K pc.v)) : PE X (.Subscript a (.Slice (some b) (some c) none q) pos) (tE X.K (cSl3 pa pb pc)) := by
  refine PE.weak (pe_slice sl_R ha (po_some hb) (po_some hc)) fun σ H Q h => ?_
  obtain ⟨env, m, g, hs, hm, hz⟩ := h
  refine ⟨env, m, g, hs, hm, (Rz.bind hz).mono fun va m1 g1 H1 e1 s1 z1 x rx => ?_⟩
  obtain ⟨g1', s1', e1', rx'⟩ := s1.hold rx
  refine ⟨env, m1, g1', (hs.ext e1).ext e1', s1', (Rz.bind (z1.ext e1')).mono fun vb m2 g2 H2 e2 s2 z2 y ry => ?_⟩
  obtain ⟨g2', s2', e2', ry'⟩ := s2.hold ry
  obtain ⟨dy, hy, z3⟩ := Rz.rdBind (z2.ext e2')
  obtain ⟨l, rfl, z4⟩ := intBind z3
  have ey := (s2'.read (nf_ne vb) ry' hy).int
  refine ⟨l, ey, env, m2, g2', (((hs.ext e1).ext e1').ext e2).ext e2', s2', (Rz.bind z4).mono fun vc m3 g3 H3 e3 s3 z5 z rz => ?_⟩
  obtain ⟨g3', s3', e3', rz'⟩ := s3.hold rz
  obtain ⟨dx, hx, z6⟩ := Rz.rdBind (z5.ext e3')
  obtain ⟨dz, hz', z7⟩ := Rz.rdBind z6
  obtain ⟨h, rfl, z8⟩ := intBind z7
  exact ⟨h, (s3'.read (nf_ne vc) rz' hz').int, m3, g3', dx, s3', s3'.read (nf_ne va) (RpV.ext ((e2.trans e2').trans (e3.trans e3')) (nf_ne va) rx') hx, z8⟩
/-- a value that is True or False, as a test -/
theorem val_bool {K : PySem.W.Frag} {v : EV} {σ : L2.St} {H : Hp} {Q : Bool → Hp → Prop} (hv : ∀ env m, ∃ q : Res Bool, v env m = q.bind boolR) (h : tT K (ofV v).t σ H Q) : tE K v σ H fun x H' => ∃ k, x = .bl k ∧ Q k H' := by
  obtain ⟨env, m, g, hs, hm, hz⟩ := h
  refine ⟨env, m, g, hs, hm, ?_⟩
  obtain ⟨q, hq⟩ := hv env m
  have hz' : Rz K ((v env m).bind truR) g H fun b _ _ H' => Q b H' := hz
  rw [hq] at hz' ⊢
  cases q with
  | fail => exact hz'.elim
  | exc a b => exact hz'.elim
  | ok c m1 =>
    intro g1 H1 e1 s1 x rx
    cases rx
    exact ⟨c, rfl, hz' g1 H1 e1 s1⟩
theorem c1_bool {K : PySem.W.Frag} {pa : P} {f : PyData → Bool} {σ : L2.St} {H : Hp} {Q : Bool → Hp → Prop} (h : tT K (ofV (c1 pa fun x m => boolR (f x) m)).t σ H Q) : tE K (c1 pa fun x m => boolR (f x) m) σ H fun x H' => ∃ k, x = .bl k ∧ Q k H' := by
  refine val_bool (fun env m => ?_) h
  unfold c1
  cases pa.v env m with
  | fail => exact ⟨.fail, rfl⟩
  | exc a b => exact ⟨.exc a b, rfl⟩
  | ok va m1 =>
    simp only [Res.bind_ok, rdR]
    cases rd m1 va.nf with
    | none => exact ⟨.fail, rfl⟩
    | some x => exact ⟨.ok (f x) m1, rfl⟩
theorem chain_bool {K : PySem.W.Frag} {pa pb pc : P} {o o' : Cop} {σ : L2.St} {H : Hp} {Q : Bool → Hp → Prop} (h : tT K (ofV (cChain o o' pa pb pc)).t σ H Q) : tE K (cChain o o' pa pb pc) σ H fun x H' => ∃ k, x = .bl k ∧ Q k H' := by
  refine val_bool (fun env m => ?_) h
  unfold cChain
  cases pa.v env m with
  | fail => exact ⟨.fail, rfl⟩
  | exc a b => exact ⟨.exc a b, rfl⟩
  | ok va m1 =>
    simp only [Res.bind_ok]
    cases pb.v env m1 with
    | fail => exact ⟨.fail, rfl⟩
    | exc a b => exact ⟨.exc a b, rfl⟩
    | ok vb m2 =>
      simp only [Res.bind_ok, rdR]
      cases rd m2 va.nf with
      | none => exact ⟨.fail, rfl⟩
      | some x =>
        simp only [optR_some, Res.bind_ok]
        cases rd m2 vb.nf with
        | none => exact ⟨.fail, rfl⟩
        | some y =>
          simp only [optR_some, Res.bind_ok]
          cases cmp o x y with
          | none => exact ⟨.fail, rfl⟩
          | some t =>
            simp only [optR_some, Res.bind_ok]
            cases t with
            | false => exact ⟨.ok false m2, rfl⟩
            | true =>
              simp only [if_true]
              cases pc.v env m2 with
              | fail => exact ⟨.fail, rfl⟩
              | exc a b => exact ⟨.exc a b, rfl⟩
              | ok vc m6 =>
                simp only [Res.bind_ok]
                cases rd m6 vb.nf with
                | none => exact ⟨.fail, rfl⟩
                | some y' =>
                  simp only [optR_some, Res.bind_ok]
                  cases rd m6 vc.nf with
                  | none => exact ⟨.fail, rfl⟩
                  | some z => exact ⟨_, rfl⟩
/-! calls of built-ins -/
inductive RrAll (K : PySem.W.Frag) (F : Addr → Prop) (H : Hp) : List V → List PyData → Prop
  | nil : RrAll K F H [] []
  | cons {x : V} {xs : List V} {d : PyData} {ds : List PyData} : Rr K F H x d → RrAll K F H xs ds → RrAll K F H (x :: xs) (d :: ds)
theorem look_ok {K : PySem.W.Frag} {m : Mem} {g : G} {H : Hp} (S : SimM K m g H) : ∀ {xs : List V} {vs : List Val} {ds : List PyData}, RpVs K g H xs vs → lookAll m vs = some ds → RrAll K g.F H xs ds
  | _, _, _, .nil, e => by
    cases e; exact .nil
  | _, _, ds, .cons (v := v) (vs := vs) r hf t, e => by
    unfold lookAll at e
    cases h1 : rd m v with
    | none => rw [h1] at e; cases e
    | some d =>
      cases h2 : lookAll m vs with
      | none => rw [h1, h2] at e; cases e
      | some ds' =>
        rw [h1, h2] at e
        cases e
        exact .cons (S.read hf r h1) (look_ok S t h2)
def rBi (K : PySem.W.Frag) (f : List PyData → Option Val) : List V → Hp → VK → Prop := fun xs H Q => ∃ m g ds, SimM K m g H ∧ RrAll K g.F H xs ds ∧ Rz K (optR (f ds) m) g H (Ans K Q)
theorem bi_ok {K : PySem.W.Frag} {b : Bi} {σ : L2.St} {H : Hp} {Q : VK} (h : tE K (cBi b ps) σ H Q) : tCB (rBi K (bi b)) (tAr K (cArgs ps)) σ H Q := by
  obtain ⟨env, m, g, hs, hm, hz⟩ := h
  refine ⟨env, m, g, hs, hm, (Rz.bind hz).mono fun vs m1 g1 H1 e1 s1 z1 xs rxs => ?_⟩
  obtain ⟨ds, hd, z2⟩ := Rz.optBind z1
  exact ⟨m1, g1, ds, s1, look_ok s1 rxs hd, z2⟩
theorem pe_biB {b : Bi} {id : String} {x : Str} {q : Pos} (hc : CallR X (.builtin id) (rBi X.K (bi b))) (hg : Gl X x) (hm : X.mg x = none) (hv : bootBuiltins x = some (.builtin id)) (hn : x ≠ "__name__") (hdb : (x == ("__debug__" : Str)) = false)
    (ha : PA X (e :: es) (tAr X.K (cArgs ps))) (h1 : notStar e = true) (h2 : es.all notStar = true) : PE X (.Call (.Name x q) (e :: es) [] pos) (tE X.K (cBi b ps)) :=
  PE.weak (pe_callB hc hg hm hv ha hn hdb (star1 h1 _ _) (star_plain _ _ _ h2)) fun _ _ _ h => bi_ok h
theorem pe_biT {b : Bi} {T : String} {x : Str} {q : Pos} (hc : CallR X (.type T) (rBi X.K (bi b))) (hg : Gl X x) (hm : X.mg x = none) (hv : bootBuiltins x = some (.type T)) (hn : x ≠ "__name__") (hdb : (x == ("__debug__" : Str)) = false)
    (ha : PA X (e :: es) (tAr X.K (cArgs ps))) (h1 : notStar e = true) (h2 : es.all notStar = true) : PE X (.Call (.Name x q) (e :: es) [] pos) (tE X.K (cBi b ps)) :=
  PE.weak (pe_callTy hc hg hm hv ha hn hdb (star1 h1 _ _) (star_plain _ _ _ h2)) fun _ _ _ h => bi_ok h
end
end Ra


set_option Elab.async false
set_option linter.all false
set_option autoImplicit false
set_option maxRecDepth 100000
/-! built-ins by the evaluator -/
namespace Ra
open PySem PySem.Spec PyProof.Rows L2
section
variable {X : Cx}
theorem RrAll.one {K : PySem.W.Frag} {F : Addr → Prop} {H : Hp} {xs : List V} {d : PyData} (h : RrAll K F H xs [d]) : ∃ x, xs = [x] ∧ Rr K F H x d := by
  cases h with
  | cons r t => cases t; exact ⟨_, rfl, r⟩
theorem RrAll.two {K : PySem.W.Frag} {F : Addr → Prop} {H : Hp} {xs : List V} {d d' : PyData} (h : RrAll K F H xs [d, d']) : ∃ x y, xs = [x, y] ∧ Rr K F H x d ∧ Rr K F H y d' := by
  cases h with
  | cons r t =>
    obtain ⟨y, rfl, q⟩ := t.one
    exact ⟨_, y, rfl, r, q⟩
theorem cr_len : CallR X (.builtin "len") (rBi X.K (bi .len)) := by
  refine CallR.weak call_len fun xs H Q ⟨m, g, ds, S, hx, hz0⟩ => ?_
  obtain ⟨w, hw, hz⟩ := Rz.opt hz0
  clear hz0
  replace hw : lenD ds = some w := hw
  unfold lenD at hw
  split at hw
  · cases hw
    obtain ⟨x, rfl, h⟩ := hx.one
    obtain ⟨a, vs, rfl, h1, h2⟩ := h.lst
    exact ⟨_, _, rfl, .inl ⟨vs, .inl h1, h2.length.symm⟩, ans_d S hz (.int _)⟩
  · cases hw
    obtain ⟨x, rfl, h⟩ := hx.one
    obtain ⟨a, vs, rfl, h1, h2⟩ := h.tup
    exact ⟨_, _, rfl, .inr ⟨vs, h1, h2.length.symm⟩, ans_d S hz (.int _)⟩
  · cases hw
    obtain ⟨x, rfl, h⟩ := hx.one
    have hl := sok_len h.sok
    have e := h.str
    subst e
    exact ⟨_, _, rfl, ⟨hl, rfl⟩, ans_d S hz (.int _)⟩
  · cases hw
theorem cr_abs : CallR X (.builtin "abs") (rBi X.K (bi .abs)) := by
  refine CallR.weak call_abs fun xs H Q ⟨m, g, ds, S, hx, hz0⟩ => ?_
  obtain ⟨w, hw, hz⟩ := Rz.opt hz0
  clear hz0
  replace hw : absD ds = some w := hw
  unfold absD at hw
  split at hw
  · cases hw
    obtain ⟨x, rfl, h⟩ := hx.one
    have e := h.int
    subst e
    exact ⟨_, rfl, ans_d S hz (.int _)⟩
  · cases hw
theorem cr_int : CallR X (.type "int") (rBi X.K (bi .int)) := by
  refine CallR.weak call_int1 fun xs H Q ⟨m, g, ds, S, hx, hz0⟩ => ?_
  obtain ⟨w, hw, hz⟩ := Rz.opt hz0
  clear hz0
  replace hw : intD ds = some w := hw
  unfold intD at hw
  split at hw
  · cases hw
    obtain ⟨x, rfl, h⟩ := hx.one
    have e := h.int
    subst e
    exact .inl ⟨_, rfl, ans_d S hz (.int _)⟩
  · cases hw
    obtain ⟨x, rfl, h⟩ := hx.one
    have e := h.bool
    subst e
    exact .inr ⟨_, rfl, ans_d S hz (.int _)⟩
  · cases hw
theorem cr_min2 (hc : X.calm = true) : CallR X (.builtin "min") (rBi X.K (bi .min2)) := by
  refine CallR.weak (call_min2 hc) fun xs H Q ⟨m, g, ds, S, hx, hz0⟩ => ?_
  obtain ⟨w, hw, hz⟩ := Rz.opt hz0
  clear hz0
  replace hw : min2D ds = some w := hw
  unfold min2D at hw
  split at hw
  · cases hw
    obtain ⟨x, y, rfl, h, h'⟩ := hx.two
    have e := h.int
    have e' := h'.int
    subst e e'
    exact ⟨_, _, rfl, ans_d S hz (.int _)⟩
  · cases hw
theorem cr_max2 (hc : X.calm = true) : CallR X (.builtin "max") (rBi X.K (bi .max2)) := by
  refine CallR.weak (call_max2 hc) fun xs H Q ⟨m, g, ds, S, hx, hz0⟩ => ?_
  obtain ⟨w, hw, hz⟩ := Rz.opt hz0
  clear hz0
  replace hw : max2D ds = some w := hw
  unfold max2D at hw
  split at hw
  · cases hw
    obtain ⟨x, y, rfl, h, h'⟩ := hx.two
    have e := h.int
    have e' := h'.int
    subst e e'
    exact ⟨_, _, rfl, ans_d S hz (.int _)⟩
  · cases hw
theorem bools_ok {K : PySem.W.Frag} {F : Addr → Prop} {H : Hp} : ∀ {ds : List PyData} {xs : List V} {bs : List Bool}, RpAll K F H xs ds → bools ds = some bs → xs = bs.map V.bl
  | [], _, bs, h, e => by
    cases h; cases e; rfl
  | d :: ds, _, bs, h, e => by
    cases h with
    | cons r t =>
      cases r with
      | bl b =>
        simp only [bools] at e
        obtain ⟨bs', e1, e2⟩ := Option.map_eq_some_iff.mp e
        subst e2
        rw [bools_ok t e1]; rfl
      | non => cases e
      | int _ => cases e
      | str _ _ => cases e
      | lst _ _ => cases e
      | tup _ _ => cases e
theorem crAll (hc : X.calm = true) : CallR X (.builtin "all") (rBi X.K (bi .all)) := by
  refine CallR.weak (cr_all hc) fun xs H Q ⟨m, g, ds, S, hx, hz0⟩ => ?_
  obtain ⟨w, hw, hz⟩ := Rz.opt hz0
  clear hz0
  replace hw : allD ds = some w := hw
  unfold allD at hw
  split at hw
  · obtain ⟨bs, hb, e⟩ := Option.map_eq_some_iff.mp hw
    subst e
    obtain ⟨x, rfl, h⟩ := hx.one
    obtain ⟨a, vs, rfl, h1, h2⟩ := h.lst
    have e := bools_ok h2 hb
    subst e
    exact ⟨a, bs, rfl, .inl h1, ans_d S hz (.bl _)⟩
  · cases hw
theorem crAny (hc : X.calm = true) : CallR X (.builtin "any") (rBi X.K (bi .any)) := by
  refine CallR.weak (cr_any hc) fun xs H Q ⟨m, g, ds, S, hx, hz0⟩ => ?_
  obtain ⟨w, hw, hz⟩ := Rz.opt hz0
  clear hz0
  replace hw : anyD ds = some w := hw
  unfold anyD at hw
  split at hw
  · obtain ⟨bs, hb, e⟩ := Option.map_eq_some_iff.mp hw
    subst e
    obtain ⟨x, rfl, h⟩ := hx.one
    obtain ⟨a, vs, rfl, h1, h2⟩ := h.lst
    have e := bools_ok h2 hb
    subst e
    exact ⟨a, bs, rfl, .inl h1, ans_d S hz (.bl _)⟩
  · cases hw
end
end Ra


set_option Elab.async false
set_option linter.all false
set_option autoImplicit false
set_option maxRecDepth 100000
/-! sorted: tuples of which the first is empty -/
namespace Ra
open PySem PySem.Calls PyProof.Rows PySem.W PySem.SeqAt
section
variable {prog : Program} {w : World} {A : Around} {E : Value → Shared → Prop} {s : Shared}
theorem call_tuple_lt {Q : Value → Shared → Prop} {l b : Addr} {items items2 : Array Value} {e r : Nat → Bool} (hl : s.heap.IsTuple l items) (hb : s.heap.IsTuple b items2)
    (he : ∀ j (h1 : j < items.size) (h2 : j < items2.size), EqAt A.in1 s items[j] items2[j] (e j)) (hr : ∀ j (h1 : j < items.size) (h2 : j < items2.size), e j = false → RcLt A.in1 s items[j] items2[j] (r j))
    (h : Q (.bool (firstLt e r (decide (items.size < items2.size)) (List.range (min items.size items2.size)))) s) : wpAny (model prog w) A (call (.builtin "tuple.__lt__") [.ref l, .ref b]) Q E s := by
  obtain ⟨⟨cls, dd, data, sl⟩, ho, hc, n, hd⟩ := id hl
  obtain ⟨⟨cls2, dd2, data2, sl2⟩, ho2, hc2, n2, hd2⟩ := id hb
  simp only at hc hd hc2 hd2
  subst hc hd hc2 hd2
  exact call_meets F.slot_tuple_lt ⟨_, ho, rfl⟩ F.entry_tuple_lt (F.args_tuple_lt_2 _ _) (tuple_ltAt l b items items2 n n2 dd dd2 sl sl2 e r) ⟨ho, ho2, he, hr, h⟩
theorem oneLt_tup {xs ys : List PyData} {a b : Value} {as bs : List Addr} {Q : Bool → Shared → Prop} (ra : Reads s.heap a (.tuple xs) as) (rb : Reads s.heap b (.tuple ys) bs) (h : alike (.tuple xs) (.tuple ys) = true)
    (hu : A.units + min (PyData.tuple xs).depth (PyData.tuple ys).depth < cLine) (hq : Q (dataLt (.tuple xs) (.tuple ys)) s) : wpAny (model prog w) A (oneLt' true a b) Q E s := by
  have hal : alikeAll xs ys = true := by simpa [alike] using h
  cases ra with
  | @tuple l o vs n _ as₁ h1 h2 h3 h4 =>
    cases rb with
    | @tuple l' o' vs' n' _ bs₁ k1 k2 k3 k4 =>
      have n1 : vs.size = xs.length := by simpa using ReadsAll.length _ _ _ h4
      have n2 : vs'.size = ys.length := by simpa using ReadsAll.length _ _ _ k4
      rw [dataLt_tuple, ← firstLt_toks xs ys hal, ← n1, ← n2] at hq
      rw [oneLt'_eq]
      simp only [if_true]
      refine wpAny_bind (wpAny_cRoomFor (room_here hu) ?_)
      refine wpAny_bind (wpAny_callSpecialIfBound?_slot (T := "tuple") ⟨_, h1, h2⟩ F.slot_tuple_lt (call_tuple_lt (e := pairEq xs ys) (r := fun j => dataLt (xs.getD j .none) (ys.getD j .none)) ⟨_, h1, h2, _, h3⟩ ⟨_, k1, k2, _, k3⟩ (fun j j1 j2 => ?_) (fun j j1 j2 hj => ?_) ?_))
      · have := eqAt_alikeAll xs ys A.in1 s vs.toList vs'.toList _ _ h4 k4 hal (room_in hu) j (by simpa using j1) (by simpa using j2)
        simpa using this
      · have := rcLt_alikeAll xs ys A.in1 s vs.toList vs'.toList _ _ h4 k4 hal (room_in hu) j (by simpa using j1) (by simpa using j2) hj
        simpa using this
      · exact wpAny_truthy_bool hq
end
section
variable {M : Model} {A : Around} {E : Value → Shared → Prop} {s : Shared}
theorem firsts_any : ∀ (vs : List Value) {Q : List (Option Value) → Shared → Prop}, (∀ v ∈ vs, ∃ a o xs n, v = .ref a ∧ s.heap.get? a = some o ∧ o.cls = .type "tuple" ∧ o.data = .seq xs n) → (∀ fs : List (Option Value), fs.length = vs.length → Q fs s) → wpAny M A (vs.mapM firstOfTuple') Q E s
  | [], _, _, h => by rw [List.mapM_nil]; exact wpAny_pure (h [] rfl)
  | v :: vs, Q, t, h => by
    obtain ⟨a, o, xs, n, rfl, ho, hc, hd⟩ := t _ List.mem_cons_self
    rw [List.mapM_cons]
    refine wpAny_bind ?_
    rw [kas_first_eq]
    refine wpAny_bind (Looks.here (show Looks M s.heap (typeOf (.ref a)) o.cls from (Looks.ld ho).andThen .now) ?_)
    rw [hc, if_neg (by first | decide | simp)]
    refine wpAny_bind (listItems_at ho hd (wpAny_pure ?_))
    exact wpAny_bind (firsts_any vs (Q := fun bs s' => wpAny M A (pure (xs[0]? :: bs)) Q E s') (fun v hv => t v (List.mem_cons_of_mem _ hv)) fun fs hf => wpAny_pure (h _ (by simp [hf])))
theorem kind_tup0 {v : Value} {vs : List Value} {Q : SortKind → Shared → Prop} (h0 : ∃ a o n, v = .ref a ∧ s.heap.get? a = some o ∧ o.cls = .type "tuple" ∧ o.data = .seq #[] n) (ht : ∀ v ∈ vs, ∃ a o xs n, v = .ref a ∧ s.heap.get? a = some o ∧ o.cls = .type "tuple" ∧ o.data = .seq xs n) (h : Q oneType' s) :
    wpAny M A (keyKind' (v :: vs).toArray) Q E s := by
  have hT : ∀ u ∈ v :: vs, Looks M s.heap (typeOf u) (Value.type "tuple") := by
    intro u hu
    rcases List.mem_cons.mp hu with rfl | hu
    · obtain ⟨a, o, n, rfl, ho, hc, hd⟩ := h0
      exact hc ▸ (show Looks M s.heap (typeOf (.ref a)) o.cls from (Looks.ld ho).andThen .now)
    · obtain ⟨a, o, xs, n, rfl, ho, hc, hd⟩ := ht u hu
      exact hc ▸ (show Looks M s.heap (typeOf (.ref a)) o.cls from (Looks.ld ho).andThen .now)
  obtain ⟨a, o, n, rfl, ho, hc, hd⟩ := h0
  rw [kat_kind_eq, List.mapM_toArray, map_eq_pure_bind]
  refine wpAny_bind (wpAny_bind ?_)
  rw [List.mapM_cons]
  refine wpAny_bind ?_
  rw [kas_first_eq]
  refine wpAny_bind (Looks.here (show Looks M s.heap (typeOf (.ref a)) o.cls from (Looks.ld ho).andThen .now) ?_)
  rw [hc, if_neg (by first | decide | simp)]
  refine wpAny_bind (listItems_at ho hd (wpAny_pure ?_))
  refine wpAny_bind (firsts_any vs ht fun fs hf => wpAny_pure ?_)
  refine wpAny_pure ?_
  rw [if_neg (by simp), if_neg (by simp)]
  rw [oneTypeOnly'_eq, List.mapM_toArray, map_eq_pure_bind]
  refine wpAny_bind (wpAny_bind (wpAny_bind (kas_mapM (r := Value.type "tuple") _ (fun v hv Q' hq => (hT v hv).here hq) (wpAny_pure ?_))))
  have hall : ((List.map (fun _ => Value.type "tuple") (Value.ref a :: vs)).toArray.all fun x => x == Value.type "tuple") = true := by
    simp only [List.all_toArray, List.all_map, List.all_eq_true]
    intro _ _
    exact beq_self_eq_true _
  have h0 : (List.map (fun _ => Value.type "tuple") (Value.ref a :: vs)).toArray[0]? = some (Value.type "tuple") := by simp
  rw [h0]
  simp only [hall, if_true]
  exact wpAny_pure (wpAny_pure h)
end
section
variable {prog : Program} {w : World} {A : Around} {E : Value → Shared → Prop} {s : Shared}
theorem tup_obj {h : Heap} {v : Value} {xs : List PyData} {as : List Addr} (r : Reads h v (.tuple xs) as) : ∃ a o us n, v = .ref a ∧ h.get? a = some o ∧ o.cls = .type "tuple" ∧ o.data = .seq us n := by
  cases r with
  | tuple h1 h2 h3 h4 => exact ⟨_, _, _, _, rfl, h1, h2, h3⟩
theorem sorts_tup0 {vs : List Value} {ds : List PyData} (e : EachIs (fun v d => ∃ as, Reads s.heap v d as) vs (.tuple [] :: ds)) (hal : AllAlike (.tuple [] :: ds)) (ht : ∀ d ∈ ds, ∃ xs, d = .tuple xs) (hu : ∀ d, d ∈ .tuple [] :: ds → A.units + d.depth < cLine) : SortsAt prog w A s (dataKind s.heap (.tuple [] :: ds)) vs := by
  have ht' : ∀ d ∈ .tuple [] :: ds, ∃ xs, d = .tuple xs := fun d hd => by
    rcases List.mem_cons.mp hd with rfl | hd
    · exact ⟨[], rfl⟩
    · exact ht d hd
  refine ⟨fun v hv => ?_, oneType', ?_, fun h2 E Q hq => ?_⟩
  · obtain ⟨d, hd, as, r⟩ := e.left v hv
    exact ⟨_, dataKind_some hal hd r⟩
  · intro E x y a b Q ha hb hq
    obtain ⟨d, as, hd, ra, rfl⟩ := dataKind_inv ha
    obtain ⟨d', as', hd', rb, rfl⟩ := dataKind_inv hb
    have hdd := hal d hd d' hd'
    have hr : A.units + min d.depth d'.depth < cLine := Nat.lt_of_le_of_lt (Nat.add_le_add_left (Nat.min_le_left _ _) _) (hu d hd)
    obtain ⟨xs, rfl⟩ := ht' d hd
    obtain ⟨ys, rfl⟩ := ht' d' hd'
    rw [keyLt'_oneType]
    exact oneLt_tup ra rb hdd hr hq
  · cases e with
    | cons r t =>
      obtain ⟨as, r⟩ := r
      refine kind_tup0 ?_ (fun v hv => ?_) hq
      · cases r with
        | @tuple a o us n _ _ h1 h2' h3 h4 =>
          have : us = #[] := by
            have := ReadsAll.length _ _ _ h4
            exact Array.eq_empty_of_size_eq_zero (by simpa using this)
          subst this
          exact ⟨_, _, _, rfl, h1, h2', h3⟩
      · obtain ⟨d, hd, as, r⟩ := t.left v hv
        obtain ⟨xs, rfl⟩ := ht d hd
        exact tup_obj r
/-- a list or a tuple -/
def SqAt (h : Heap) (l : Addr) (vs : Array Value) : Prop := ∃ o, h.get? l = some o ∧ (o.cls = .type "list" ∨ o.cls = .type "tuple") ∧ ∃ n, o.data = .seq vs n
theorem collect_sq {l : Addr} {vs : List Value} {Q : List Value → Shared → Prop} (hl : SqAt s.heap l vs.toArray)
    (h : Q vs { s with heap := (s.heap.push (seqObj "list" #[] 0)).update s.heap.objs.size (Obj.mapSeq (· ++ vs.toArray)) }) (hsz : vs.length ≤ sizeLine) :
    wpAny (model prog w) A (collect (.ref l)) Q E s := by
  obtain ⟨o, ho, hc, n, hd⟩ := hl
  unfold collect
  refine wpAny_bind (wpAny_runValue (codeAny_builtin entry_proto_collect' ?_))
  show wpAny _ _ (do again (.builtin "list.__iadd__" ⟨[← newList [], .ref l], []⟩)) _ _ s
  refine wpAny_bind (wpAny_newList (wpAny_pure ⟨Code.quiet_builtin _ (by decide +kernel), codeAny_builtin entry_list_iadd' ?_⟩))
  show wpAny _ _ (Builtin.List.listExtendWith (.ref s.heap.objs.size) (.ref l) (.ref s.heap.objs.size)) _ _ { s with heap := s.heap.push (seqObj "list" #[] 0) }
  unfold Builtin.List.listExtendWith
  have ho' : (s.heap.push (seqObj "list" #[] 0)).get? l = some o := Heap.get?_push_of_some _ ho
  rcases hc with hc | hc
  · refine wpAny_bind (wpAny_typeOf (T := "list") ⟨o, ho', hc⟩ ?_)
    have ht : (Value.type "list" == Value.type "list") = true := by rfl
    rw [if_pos (by rw [ht]; simp)]
    refine wpAny_bind (listItems_at ho' hd ?_)
    refine wpAny_bind (listItems_at (xs := #[]) (n := 0) (Heap.get?_push_size _ rfl) rfl ?_)
    rw [if_neg (by simp)]
    refine wpAny_bind (listUpdate_at (xs := #[]) (n := 0) (Heap.get?_push_size _ rfl) rfl ?_ (Nat.zero_le _) (by show (#[] ++ vs.toArray).size ≤ sizeLine + 1; simp only [Array.size_append, List.size_toArray, List.length_nil]; omega))
    refine wpAny_pure ?_
    show wpAny (model prog w) A (do
      let o ← load s.heap.objs.size
      match o.data with
      | .seq xs _ => pure xs.toList
      | _ => unsupported "internal:collect") Q E { s with heap := (s.heap.push (seqObj "list" #[] 0)).update s.heap.objs.size (Obj.mapSeq (· ++ vs.toArray)) }
    refine wpAny_bind (wpAny_load (get?_update_seq (Heap.get?_push_size _ rfl) _) ?_)
    show wpAny _ _ (pure ((#[] : Array Value) ++ vs.toArray).toList) Q E _
    rw [show ((#[] : Array Value) ++ vs.toArray).toList = vs by simp]
    exact wpAny_pure h
  · refine wpAny_bind (wpAny_typeOf (T := "tuple") ⟨o, ho', hc⟩ ?_)
    have ht : (Value.type "tuple" == Value.type "tuple") = true := by rfl
    rw [if_pos (by rw [ht]; simp)]
    refine wpAny_bind (listItems_at ho' hd ?_)
    refine wpAny_bind (listItems_at (xs := #[]) (n := 0) (Heap.get?_push_size _ rfl) rfl ?_)
    rw [if_neg (by simp)]
    refine wpAny_bind (listUpdate_at (xs := #[]) (n := 0) (Heap.get?_push_size _ rfl) rfl ?_ (Nat.zero_le _) (by show (#[] ++ vs.toArray).size ≤ sizeLine + 1; simp only [Array.size_append, List.size_toArray, List.length_nil]; omega))
    refine wpAny_pure ?_
    show wpAny (model prog w) A (do
      let o ← load s.heap.objs.size
      match o.data with
      | .seq xs _ => pure xs.toList
      | _ => unsupported "internal:collect") Q E { s with heap := (s.heap.push (seqObj "list" #[] 0)).update s.heap.objs.size (Obj.mapSeq (· ++ vs.toArray)) }
    refine wpAny_bind (wpAny_load (get?_update_seq (Heap.get?_push_size _ rfl) _) ?_)
    show wpAny _ _ (pure ((#[] : Array Value) ++ vs.toArray).toList) Q E _
    rw [show ((#[] : Array Value) ++ vs.toArray).toList = vs by simp]
    exact wpAny_pure h
theorem sorted_sq {κ : PyProof.Rows.KeyKind} {l : Addr} {vs : List Value} {Q : Value → Shared → Prop} (hl : SqAt s.heap l vs.toArray) (S : SortsAt prog w A.in1.in1 { s with heap := sortingHeap (copyHeap s.heap vs) (s.heap.objs.size + 1) vs } κ vs) (hL : vs.length ≤ sizeLine)
    (h : Q (.ref (s.heap.objs.size + 1)) { s with heap := sortedAll s.heap vs (sortVals κ false vs vs).toArray }) : wpAny (model prog w) A (call (.builtin "sorted") [.ref l]) Q E s := by
  refine call_function_entry_kw kind_sorted plain_sorted entry_sorted (args_sorted1 _) ?_
  unfold Builtin.«sorted»
  refine wpAny_bind (m := checkCount "sorted" 1 1 _) (wpAny_pure ?_)
  refine wpAny_bind (collect_sq hl ?_ hL)
  refine wpAny_bind (wpAny_newList ?_ hL)
  have hsz : ((s.heap.push (seqObj "list" #[] 0)).update s.heap.objs.size (Obj.mapSeq (· ++ vs.toArray))).objs.size = s.heap.objs.size + 1 := by
    rw [Heap.size_update, size_push']
  show wpAny _ _ _ _ _ { s with heap := copyHeap s.heap vs }
  rw [hsz]
  refine wpAny_bind (wpAny_holding (wpAny_call_entry_kw slot_list_sort ⟨_, copyHeap_at s.heap vs, rfl⟩ entry_list_sort ?body (args_list_sort _)))
  case body =>
    show wpAny (model prog w) A.in1.in1 (Builtin.«list.sort» ⟨[.ref (s.heap.objs.size + 1)], []⟩) _ _ _
    refine wpAny_mono (list_sort_vals (s := { s with heap := copyHeap s.heap vs }) (copyHeap_at s.heap vs) S hL (P := fun f s' => f = .done (.ret .none) ∧ Q (.ref (s.heap.objs.size + 1)) s') ⟨rfl, h⟩) (fun f s' hf => ?_) fun _ _ e => e
    obtain ⟨rfl, hq⟩ := hf
    exact ⟨_, rfl, wpAny_pure ⟨_, rfl, hq⟩⟩
theorem sorted_sqd {R : Value → PyData → Prop} {vs : List Value} {bs : List PyData} {l : Addr} {Q : Value → Shared → Prop} (hl : SqAt s.heap l vs.toArray) (e : EachIs R vs bs) (er : EachIs (fun v b => ∃ as, Reads s.heap v b as) vs bs) (hal : AllAlike bs)
    (hk : Sortable bs ∨ ∃ r, bs = .tuple [] :: r ∧ ∀ d ∈ r, ∃ xs, d = .tuple xs) (hL : bs.length ≤ sizeLine)
    (hu : ∀ b, b ∈ bs → A.units + 2 + b.depth < cLine) (h : ∀ out, out.length = bs.length → EachIs R out (bs.mergeSort (dataLe false id)) → Q (.ref (s.heap.objs.size + 1)) { s with heap := sortedAll s.heap vs (List.toArray out) }) :
    wpAny (model prog w) A (call (.builtin "sorted") [.ref l]) Q E s := by
  have er' : EachIs (fun v b => ∃ as, Reads (sortingHeap (copyHeap s.heap vs) (s.heap.objs.size + 1) vs) v b as) vs bs := er.mono fun _ _ ⟨as, r⟩ => ⟨as, PyProof.Rows.Reads.keeps (fun _ _ => sorting_copy_old) r⟩
  have hal' : AllAlike (bs.map id) := by rw [List.map_id]; exact hal
  have hs := sortVals_data (enc := id) false e er' hal'
  rw [List.map_id] at hs
  refine sorted_sq hl (κ := dataKind (sortingHeap (copyHeap s.heap vs) (s.heap.objs.size + 1) vs) bs) ?_ (by rw [e.length]; exact hL) (h _ (by rw [sortVals_length false rfl]; exact e.length) hs)
  rcases hk with hk | ⟨r, rfl, hk⟩
  · exact SortsAt.data (s := { s with heap := sortingHeap (copyHeap s.heap vs) (s.heap.objs.size + 1) vs }) er' hal hk hu
  · exact sorts_tup0 (s := { s with heap := sortingHeap (copyHeap s.heap vs) (s.heap.objs.size + 1) vs }) er' hal hk hu
end
end Ra


set_option Elab.async false
set_option linter.all false
set_option autoImplicit false
set_option maxRecDepth 100000
/-! sorted -/
namespace Ra
open PySem PySem.Spec PyProof.Rows L2
abbrev dle : PyData → PyData → Bool := PySem.W.dataLe false id
theorem dle_eq (a b : PyData) : dle a b = !PySem.W.dataLt b a := rfl
theorem dle_total : PySem.W.TotalLe dle := PySem.W.sortLe_total _ _ _
theorem ins_mem (x y : PyData) : ∀ l, y ∈ ins x l ↔ y = x ∨ y ∈ l
  | [] => by simp [ins]
  | z :: l => by
    unfold ins
    split
    · simp
    · simp only [List.mem_cons, ins_mem x y l]
      constructor
      · rintro (h | h | h)
        · exact .inr (.inl h)
        · exact .inl h
        · exact .inr (.inr h)
      · rintro (h | h | h)
        · exact .inr (.inl h)
        · exact .inl h
        · exact .inr (.inr h)
theorem ins_sorted (x : PyData) : ∀ l : List PyData, l.Pairwise (fun a b => dle a b = true) → (ins x l).Pairwise (fun a b => dle a b = true)
  | [], _ => by simp [ins]
  | z :: l, h => by
    obtain ⟨h1, h2⟩ := List.pairwise_cons.mp h
    unfold ins
    split
    · rename_i hlt
      have hxz : dle x z = true := by
        rcases dle_total.total x z with q | q
        · exact q
        · rw [dle_eq, hlt] at q; cases q
      refine List.pairwise_cons.mpr ⟨fun y hy => ?_, h⟩
      rcases List.mem_cons.mp hy with rfl | hy
      · exact hxz
      · exact dle_total.trans _ _ _ hxz (h1 y hy)
    · rename_i hlt
      refine List.pairwise_cons.mpr ⟨fun y hy => ?_, ins_sorted x l h2⟩
      rcases (ins_mem x y l).mp hy with rfl | hy
      · rw [dle_eq]; simpa using hlt
      · exact h1 y hy
theorem rank_not {c x y z : PyData} (hx : PySem.W.sameRank dle c x = true) (hlt : PySem.W.dataLt x y = true) (hyz : dle y z = true) : PySem.W.sameRank dle c z = false := by
  cases h : PySem.W.sameRank dle c z with
  | false => rfl
  | true =>
    unfold PySem.W.sameRank at hx h
    simp only [Bool.and_eq_true] at hx h
    have : dle y x = true := dle_total.trans _ _ _ hyz (dle_total.trans _ _ _ h.2 hx.1)
    rw [dle_eq, hlt] at this
    cases this
theorem ins_filter (x c : PyData) : ∀ l : List PyData, l.Pairwise (fun a b => dle a b = true) → (ins x l).filter (PySem.W.sameRank dle c) = l.filter (PySem.W.sameRank dle c) ++ [x].filter (PySem.W.sameRank dle c)
  | [], _ => by simp [ins]
  | z :: l, h => by
    obtain ⟨h1, h2⟩ := List.pairwise_cons.mp h
    unfold ins
    split
    · rename_i hlt
      cases hx : PySem.W.sameRank dle c x with
      | false => simp [hx]
      | true =>
        have hz : PySem.W.sameRank dle c z = false := rank_not hx hlt (by
          rcases dle_total.total z z with q | q <;> exact q)
        have hl : l.filter (PySem.W.sameRank dle c) = [] := List.filter_eq_nil_iff.mpr fun y hy => by
          rw [rank_not hx hlt (h1 y hy)]; simp
        simp [hx, hz, hl]
    · cases hz : PySem.W.sameRank dle c z with
      | false => rw [List.filter_cons_of_neg (by rw [hz]; simp), List.filter_cons_of_neg (by rw [hz]; simp)]; exact ins_filter x c l h2
      | true => rw [List.filter_cons_of_pos hz, List.filter_cons_of_pos hz, ins_filter x c l h2]; rfl
theorem isort_sorted : ∀ (l acc : List PyData), acc.Pairwise (fun a b => dle a b = true) → (isort acc l).Pairwise (fun a b => dle a b = true)
  | [], _, h => h
  | x :: l, acc, h => isort_sorted l _ (ins_sorted x acc h)
theorem isort_filter (c : PyData) : ∀ (l acc : List PyData), acc.Pairwise (fun a b => dle a b = true) → (isort acc l).filter (PySem.W.sameRank dle c) = acc.filter (PySem.W.sameRank dle c) ++ l.filter (PySem.W.sameRank dle c)
  | [], acc, _ => by simp [isort]
  | x :: l, acc, h => by
    rw [isort, isort_filter c l _ (ins_sorted x acc h), ins_filter x c acc h, List.append_assoc, ← List.filter_append]
    rfl
theorem isort_eq (l : List PyData) : isort [] l = l.mergeSort dle :=
  PySem.W.sort_unique dle_total (isort_sorted l [] List.Pairwise.nil) fun c => by
    rw [isort_filter c l [] List.Pairwise.nil]; rfl
theorem isort_length : ∀ (l acc : List PyData), (isort acc l).length = acc.length + l.length
  | [], acc => by simp [isort]
  | x :: l, acc => by
    have h : ∀ a : List PyData, (ins x a).length = a.length + 1 := by
      intro a
      induction a with
      | nil => rfl
      | cons y a ih =>
        unfold ins
        split
        · simp
        · simp [ih]
    rw [isort, isort_length l, h, List.length_cons]; omega
section
variable {X : Cx} {K : PySem.W.Frag} {F : Addr → Prop} {H : Hp}
theorem each_of {R : Value → PyData → Prop} : ∀ {xs : List V} {us : List Value} {ds : List PyData}, Vals xs us → RpAll K F H xs ds → (∀ x u d, RelV x u → Rp K F H x d → R u d) → PySem.W.EachIs R us ds
  | _, _, _, .nil, .nil, _ => .nil
  | _, _, _, .cons r t, .cons a b, f => .cons (f _ _ _ r a) (each_of t b f)
theorem of_each : ∀ {us : List Value} {ds : List PyData}, PySem.W.EachIs (fun u d => ∃ x, RelV x u ∧ Rp K F H x d) us ds → ∃ xs, Vals xs us ∧ RpAll K F H xs ds
  | _, _, .nil => ⟨[], .nil, .nil⟩
  | _, _, .cons ⟨x, r, a⟩ t => by
    obtain ⟨xs, h1, h2⟩ := of_each t
    exact ⟨x :: xs, .cons r h1, .cons a h2⟩
theorem sortable_ok {ds : List PyData} (h : (ds.all isTupC || ds.all isPlainC) = true) : PySem.W.Sortable ds := by
  rcases Bool.or_eq_true_iff.mp h with h | h
  · refine .inl fun d hd => ?_
    have := List.all_eq_true.mp h d hd
    unfold isTupC at this
    split at this
    · exact ⟨_, _, rfl⟩
    · cases this
  · refine .inr fun d hd => ?_
    have := List.all_eq_true.mp h d hd
    unfold isPlainC at this
    split at this
    · exact ⟨by simp, by simp⟩
    · exact ⟨by simp, by simp⟩
    · cases this
theorem alike_ok {ds : List PyData} (h : allAlike ds = true) : PySem.W.AllAlike ds := fun d hd d' hd' => List.all_eq_true.mp (List.all_eq_true.mp h d hd) d' hd'
theorem depth_le : ∀ {ds : List PyData} {d : PyData}, d ∈ ds → d.depth ≤ PyData.depthAll ds
  | e :: ds, d, h => by
    simp only [PyData.depthAll]
    rcases List.mem_cons.mp h with rfl | h
    · exact Nat.le_max_left _ _
    · exact Nat.le_trans (depth_le h) (Nat.le_max_right _ _)
theorem sorted_any {prog : Program} {w : World} {A : Around} {E : Value → Shared → Prop} {s : Shared} {R : Value → PyData → Prop} {vs : List Value} {bs : List PyData} {l : Addr} {Q : Value → Shared → Prop} (hl : SqAt s.heap l vs.toArray) (e : PySem.W.EachIs R vs bs) (er : PySem.W.EachIs (fun v b => ∃ as, Reads s.heap v b as) vs bs) (hal : PySem.W.AllAlike bs) (hk : sortable bs = true) (hL : bs.length ≤ sizeLine)
    (hu : ∀ b, b ∈ bs → A.units + 2 + b.depth < cLine) (h : ∀ out, out.length = bs.length → PySem.W.EachIs R out (bs.mergeSort (PySem.W.dataLe false id)) → Q (.ref (s.heap.objs.size + 1)) { s with heap := sortedAll s.heap vs (List.toArray out) }) :
    wpAny (model prog w) A (call (.builtin "sorted") [.ref l]) Q E s := by
  refine sorted_sqd hl e er hal ?_ hL hu h
  unfold sortable at hk
  rcases Bool.or_eq_true_iff.mp hk with hk | hk
  · exact .inl (sortable_ok hk)
  · unfold tup0 at hk
    split at hk
    · exact .inr ⟨_, rfl, fun d hd => by
        have := List.all_eq_true.mp hk d hd
        unfold isTup at this
        split at this
        · exact ⟨_, rfl⟩
        · cases this⟩
    · cases hk
theorem cr_sorted' (hu : X.A.units + 200 < cLine) : CallR X (.builtin "sorted") (rBi X.K (bi .sorted)) := by
  intro pins s σ H vs us Q I r h
  obtain ⟨m, g, ds, S, hx, hz0⟩ := h
  obtain ⟨w, hw, hz⟩ := Rz.opt hz0
  clear hz0
  replace hw : sortedD ds = some w := hw
  have key : ∃ (xs : List PyData) (a : Addr) (ws : List V) (its : List Value), vs = [.ref a] ∧ RpAll X.K g.F H ws xs ∧ Vals ws its ∧ SqAt s.heap a its.toArray ∧ ws.length ≤ sizeLine ∧ (sortD xs).map Val.fr = some w := by
    unfold sortedD at hw
    split at hw
    · obtain ⟨x, rfl, h⟩ := hx.one
      obtain ⟨a, ws, rfl, h1, h2⟩ := h.lst
      obtain ⟨its, rv, hl, hlen⟩ := I.list (.inl h1)
      obtain ⟨o, ho, hc, n, hd⟩ := hl.isList
      exact ⟨_, a, ws, its, rfl, h2, rv, ⟨o, ho, .inl hc, n, hd⟩, hlen, hw⟩
    · obtain ⟨x, rfl, h⟩ := hx.one
      obtain ⟨a, ws, rfl, h1, h2⟩ := h.tup
      obtain ⟨its, rv, hl, hlen⟩ := I.tuple h1
      obtain ⟨o, ho, hc, n, hd⟩ := hl
      exact ⟨_, a, ws, its, rfl, h2, rv, ⟨o, ho, .inr hc, n, hd⟩, hlen, hw⟩
    · cases hw
  obtain ⟨xs, a, ws, its, rfl, h2, rv, hl, hlen, hw⟩ := key
  obtain ⟨ys, hy, e⟩ := Option.map_eq_some_iff.mp hw
  subst e
  unfold sortD at hy
  split at hy
  · rename_i hc
    cases hy
    obtain ⟨hc1, hc3⟩ := Bool.and_eq_true_iff.mp hc
    obtain ⟨hal, hso⟩ := Bool.and_eq_true_iff.mp hc1
    have hdp : PyData.depthAll xs ≤ 64 := of_decide_eq_true hc3
    rw [Vals.ref1 r]
    refine sorted_any (R := fun u d => ∃ x, RelV x u ∧ Rp X.K g.F H x d) (bs := xs) hl (each_of rv h2 fun x u d a b => ⟨x, a, b⟩)
      (each_of rv h2 fun x u d a b => Dp.reads I d x u (Rp.dp d b) a) (alike_ok hal) hso (by rw [← h2.length]; exact hlen) (fun b hb => by
        have := depth_le hb
        show X.A.units + 2 + b.depth < cLine
        omega) fun out ho he => ?_
    rw [← isort_eq] at he
    obtain ⟨zs, z1, z2⟩ := of_each he
    obtain ⟨ep, he'⟩ := PyProof.Rows.sortedAll_at s.heap its (List.toArray out)
    have hzl : zs.length ≤ sizeLine := by rw [z1.length, ho, ← h2.length]; exact hlen
    refine ⟨.ref _, upd H (s.heap.objs.size + 1) (.lst zs), I.laid (t' := s.toks) (fun _ _ => PyProof.Rows.sortedAll_old) (Nat.le_succ _) ⟨hzl, out, ep, z1, ?_⟩, rfl, ans_l S hz z2 hzl (I.hok.fresh (Nat.le_succ _))⟩
    exact he'
  · cases hy
end
end Ra


set_option Elab.async false
set_option linter.all false
set_option autoImplicit false
set_option maxRecDepth 100000
/-! targets, walks, comprehensions, loops -/
namespace Ra
open PySem PySem.Spec PyProof.Rows L2
/-! targets -/
mutual
def slots : Tg → List Nat
  | .nm i => [i]
  | .tp ts => slotsAll ts
def slotsAll : List Tg → List Nat
  | [] => []
  | t :: ts => slots t ++ slotsAll ts
end
theorem wipe_set {σ : L2.St} {i : Nat} {v : Option V} : ∀ {vs : List Nat}, i ∈ vs → L2.wipe (σ.set i v) vs = L2.wipe σ vs
  | w :: vs, h => by
    have comm : ∀ {vs : List Nat}, i ∉ vs → L2.wipe (σ.set i v) vs = (L2.wipe σ vs).set i v := by
      intro vs
      induction vs with
      | nil => intro _; rfl
      | cons u r ih =>
        intro hn
        show (L2.wipe (σ.set i v) r).set u none = ((L2.wipe σ r).set u none).set i v
        rw [ih (fun z => hn (List.mem_cons_of_mem _ z)), List.set_comm _ _ (fun z => hn (by rw [z]; exact List.mem_cons_self))]
    by_cases hv : i ∈ vs
    · show (L2.wipe (σ.set i v) vs).set w none = (L2.wipe σ vs).set w none
      rw [wipe_set hv]
    · have hw : i = w := by
        rcases List.mem_cons.mp h with z | z
        · exact z
        · exact absurd z hv
      subst hw
      show (L2.wipe (σ.set i v) vs).set i none = (L2.wipe σ vs).set i none
      rw [comm hv, List.set_set]
def gT (K : PySem.W.Frag) (t : Tg) : TG := fun x σ H Q => ∃ env g d env', Sg K env σ g H ∧ Rp K g.F H x d ∧ asg t d env = some env' ∧
  ∀ σ', Sg K env' σ' g H → (∀ vs, (∀ i ∈ slots t, i ∈ vs) → L2.wipe σ' vs = L2.wipe σ vs) → Q σ' H
def gTs (K : PySem.W.Frag) (ts : List Tg) : TGs := fun xs σ H Q => ∃ env g ds env', Sg K env σ g H ∧ RpAll K g.F H xs ds ∧ asgs ts ds env = some env' ∧
  ∀ σ', Sg K env' σ' g H → (∀ vs, (∀ i ∈ slotsAll ts, i ∈ vs) → L2.wipe σ' vs = L2.wipe σ vs) → Q σ' H
section
variable {X : Cx} {e : Expr} {es : List Expr} {pos : Pos}
theorem PG.weak {t t' : TG} (h : PG X e t) (w : ∀ x σ H Q, t' x σ H Q → t x σ H Q) : PG X e t' := ⟨fun pins s σ H v u Q I r q => h.run pins s σ H v u Q I r (w v σ H Q q)⟩
theorem PG.or {t t' : TG} (h : PG X e t) (h' : PG X e t') : PG X e (fun x σ H Q => t x σ H Q ∨ t' x σ H Q) := ⟨fun pins s σ H v u Q I r q => q.elim (h.run pins s σ H v u Q I r) (h'.run pins s σ H v u Q I r)⟩
theorem PGs.weak {t t' : TGs} (h : PGs X es t) (w : ∀ x σ H Q, t' x σ H Q → t x σ H Q) : PGs X es t' := ⟨fun pins s σ H v u Q I r q => h.run pins s σ H v u Q I r (w v σ H Q q)⟩
theorem pg_nameR {i : Nat} {x : Str} (hN : X.N.Nodup) (hi : X.N[i]? = some x) (hx : Loc X.env.scope x) (hf : X.fn x = true ∨ X.env.scope.names.lookup x = some .local) : PG X (.Name x pos) (gT X.K (.nm i)) := by
  refine PG.weak (pg_name hN hi hx hf) fun v σ H Q ⟨env, g, d, env', hs, hr, ha, q⟩ => ?_
  simp only [asg] at ha
  split at ha
  · rename_i hlt
    cases ha
    exact q _ (hs.set (v := .d d) hr (by simp) hlt) fun vs hv => wipe_set (hv i (by simp [slots]))
  · cases ha
theorem pgs_nilR : PGs X [] (gTs X.K []) := PGs.weak pgs_nil fun v σ H Q ⟨env, g, ds, env', hs, hr, ha, q⟩ => by
  cases ds with
  | nil =>
    cases hr
    cases ha
    exact ⟨rfl, q σ hs fun _ _ => rfl⟩
  | cons _ _ => cases ha
theorem assign_plain {e : Expr} (h : notStar e = true) (es : List Expr) (env : PySem.Env) : assignEach (e :: es) env = (false, assign e env) :: assignEach es env := by
  cases e <;> first | rfl | (cases h; done)
theorem pgs_consR {t : Tg} {ts : List Tg} (h1 : PG X e (gT X.K t)) (h2 : PGs X es (gTs X.K ts)) (ns : notStar e = true) : PGs X (e :: es) (gTs X.K (t :: ts)) := by
  refine PGs.weak (pgs_cons h1 h2 (by rw [assign_plain ns]; rfl)) fun v σ H Q ⟨env, g, ds, env', hs, hr, ha, q⟩ => ?_
  cases ds with
  | nil => cases ha
  | cons d ds =>
    simp only [asgs] at ha
    cases hr with
    | cons r rr =>
      cases h3 : asg t d env with
      | none => rw [h3] at ha; cases ha
      | some env1 =>
        rw [h3] at ha
        refine ⟨_, _, rfl, env, g, d, env1, hs, r, h3, fun σ1 hs1 w1 => ?_⟩
        refine ⟨env1, g, ds, env', hs1, rr, ha, fun σ2 hs2 w2 => q σ2 hs2 fun vs hv => ?_⟩
        rw [w2 vs fun i hi => hv i (by simp [slotsAll, hi]), w1 vs fun i hi => hv i (by simp [slotsAll, hi])]
theorem assign_len : ∀ (es : List Expr) (env : PySem.Env), es.all notStar = true → (assignEach es env).length = es.length ∧ (assignEach es env).findIdx? (·.1) = none
  | [], _, _ => ⟨rfl, rfl⟩
  | e :: es, env, h => by
    obtain ⟨h1, h2⟩ := Bool.and_eq_true_iff.mp (show (notStar e && es.all notStar) = true from h)
    obtain ⟨a, b⟩ := assign_len es env h2
    rw [assign_plain h1]
    exact ⟨by simp [a], by simp [List.findIdx?_cons, b]⟩
theorem asgs_len : ∀ (ts : List Tg) (ds : List PyData) (env env' : Env), asgs ts ds env = some env' → ds.length = ts.length
  | [], [], _, _, _ => rfl
  | [], _ :: _, _, _, h => by cases h
  | _ :: _, [], _, _, h => by cases h
  | t :: ts, d :: ds, env, env', h => by
    simp only [asgs] at h
    split at h
    · rw [List.length_cons, List.length_cons, asgs_len ts ds _ _ h]
    · cases h
theorem pg_tupR {ts : List Tg} {k : Nat} (hc : X.calm = true) (h : PGs X es (gTs X.K ts)) (ns : es.all notStar = true) (hl : es.length = ts.length) : PG X (.Tuple es k pos) (gT X.K (.tp ts)) := by
  obtain ⟨a, b⟩ := assign_len es X.env ns
  refine PG.weak (PG.or (pg_tup (n := es.length) hc h a b) (pg_unl (n := es.length) hc h a b)) fun v σ H Q ⟨env, g, d, env', hs, hr, ha, q⟩ => ?_
  simp only [asg] at ha
  split at ha
  · obtain ⟨p, xs, rfl, h1, h2⟩ := (Rp.rr hr).tup
    exact .inl ⟨p, xs, rfl, h1, by rw [h2.length, asgs_len _ _ _ _ ha, hl], env, g, _, env', hs, h2, ha, q⟩
  · obtain ⟨p, xs, rfl, h1, h2⟩ := (Rp.rr hr).lst
    exact .inr ⟨p, xs, rfl, .inl h1, by rw [h2.length, asgs_len _ _ _ _ ha, hl], env, g, _, env', hs, h2, ha, q⟩
  · cases ha
end
/-! what is walked -/
/-- D is left alone -/
def G.hold (g : G) (D : Addr) : G := ⟨g.F, g.ad, fun b => b = D ∨ g.pr b⟩
/-- .. and no more -/
def G.back (g : G) (pr : Addr → Prop) : G := ⟨g.F, g.ad, pr⟩
def nop : Addr → Prop := fun _ => False
theorem Ext.toBack {g0 g : G} {H0 H : Hp} (e : Ext g0 H0 g H) : Ext (g0.back nop) H0 (g.back nop) H := ⟨e.sub, e.fix, e.tup, e.frz, e.ads, rfl, fun _ h => h.elim⟩
structure WalkOk (K : PySem.W.Frag) (J : It) (is : List PyData) (gs : List Nat) (m0 : Mem) (g0 : G) (H0 : Hp) : Prop where
  len : is.length ≤ sizeLine
  go : ∀ (i : Nat) (m : Mem) (g : G) (H : Hp), Ext (g0.back nop) H0 (g.back nop) H → SimM K m g H → same gs m0 m = true → i < is.length → J.go i H
  yld : ∀ (i : Nat) (m : Mem) (g : G) (H : Hp) (x : V) (H' : Hp) (d : PyData), Ext (g0.back nop) H0 (g.back nop) H → SimM K m g H → same gs m0 m = true → is[i]? = some d → J.yld i H x H' → SimM K m g H' ∧ Ext g H g H' ∧ Rp K g.F H' x d
  stop : ∀ (i : Nat) (m : Mem) (g : G) (H : Hp), Ext (g0.back nop) H0 (g.back nop) H → SimM K m g H → same gs m0 m = true → is.length ≤ i → J.stop i H
mutual
theorem beq_ok : ∀ (x y : PyData), beqD x y = true → x = y
  | .none, y, h => by cases y <;> first | rfl | (simp [beqD] at h; done)
  | .bool a, y, h => by
    cases y <;> simp [beqD] at h
    rw [h]
  | .int a, y, h => by
    cases y <;> simp [beqD] at h
    rw [h]
  | .str a, y, h => by
    cases y <;> simp [beqD] at h
    rw [h]
  | .list a, y, h => by
    cases y <;> simp [beqD] at h
    rw [beqs_ok a _ h]
  | .tuple a, y, h => by
    cases y <;> simp [beqD] at h
    rw [beqs_ok a _ h]
  | .dict a, y, h => by
    cases y <;> simp [beqD] at h
    rw [beqp_ok a _ h]
theorem beqs_ok : ∀ (x y : List PyData), beqDs x y = true → x = y
  | [], y, h => by cases y <;> first | rfl | (simp [beqDs] at h; done)
  | x :: xs, y, h => by
    cases y with
    | nil => simp [beqDs] at h
    | cons y ys =>
      simp [beqDs] at h
      rw [beq_ok x y h.1, beqs_ok xs ys h.2]
theorem beqp_ok : ∀ (x y : List (PyData × PyData)), beqPs x y = true → x = y
  | [], y, h => by cases y <;> first | rfl | (simp [beqPs] at h; done)
  | (x, u) :: xs, y, h => by
    cases y with
    | nil => simp [beqPs] at h
    | cons y ys =>
      obtain ⟨y, v⟩ := y
      simp [beqPs] at h
      rw [beq_ok x y h.1.1, beq_ok u v h.1.2, beqp_ok xs ys h.2]
end
mutual
theorem beq_refl : ∀ x : PyData, beqD x x = true
  | .none => rfl
  | .bool a => by simp [beqD]
  | .int a => by simp [beqD]
  | .str a => by simp [beqD]
  | .list a => beqs_refl a
  | .tuple a => beqs_refl a
  | .dict a => beqp_refl a
theorem beqs_refl : ∀ x : List PyData, beqDs x x = true
  | [] => rfl
  | x :: xs => by
    simp [beqDs, beq_refl x, beqs_refl xs]
theorem beqp_refl : ∀ x : List (PyData × PyData), beqPs x x = true
  | [] => rfl
  | (x, u) :: xs => by
    simp [beqPs, beq_refl x, beq_refl u, beqp_refl xs]
end
theorem same_at : ∀ {gs : List Nat} {m m' : Mem} {k : Nat}, same gs m m' = true → k ∈ gs → ∃ c c', m[k]? = some c ∧ m'[k]? = some c' ∧ c'.xs = c.xs
  | j :: gs, m, m', k, h, hk => by
    obtain ⟨h1, h2⟩ := Bool.and_eq_true_iff.mp (show ((match m[j]?, m'[j]? with | some c, some c' => beqDs c.xs c'.xs | _, _ => false) && same gs m m') = true from h)
    rcases List.mem_cons.mp hk with rfl | hk
    · split at h1
      · rename_i c c' e1 e2
        exact ⟨c, c', e1, e2, (beqs_ok _ _ h1).symm⟩
      · cases h1
    · exact same_at h2 hk
theorem same_of : ∀ {gs : List Nat} {m m' : Mem}, (∀ k ∈ gs, ∃ c c', m[k]? = some c ∧ m'[k]? = some c' ∧ c'.xs = c.xs) → same gs m m' = true
  | [], _, _, _ => rfl
  | j :: gs, m, m', h => by
    obtain ⟨c, c', e1, e2, e3⟩ := h j List.mem_cons_self
    have ih := same_of (gs := gs) (m := m) (m' := m') fun k hk => h k (List.mem_cons_of_mem _ hk)
    show ((match m[j]?, m'[j]? with | some c, some c' => beqDs c.xs c'.xs | _, _ => false) && same gs m m') = true
    rw [e1, e2, ih]
    show (beqDs c.xs c'.xs && true) = true
    rw [e3, beqs_refl]; rfl
theorem same_trans {gs : List Nat} {m m1 m2 : Mem} (a : same gs m m1 = true) (b : same gs m1 m2 = true) : same gs m m2 = true := same_of fun k hk => by
  obtain ⟨c, c1, e1, e2, e3⟩ := same_at a hk
  obtain ⟨c1', c2, f1, f2, f3⟩ := same_at b hk
  rw [e2] at f1; cases f1
  exact ⟨c, c2, e1, f2, f3.trans e3⟩
theorem same_refl {gs : List Nat} {m : Mem} (h : ∀ k ∈ gs, ∃ c, m[k]? = some c) : same gs m m = true := same_of fun k hk => by
  obtain ⟨c, e⟩ := h k hk
  exact ⟨c, c, e, e, rfl⟩
end Ra


set_option Elab.async false
set_option linter.all false
set_option autoImplicit false
set_option maxRecDepth 100000
/-! walks of the evaluator's sources; comprehensions -/
namespace Ra
open PySem PySem.Spec PyProof.Rows L2
section
variable {X : Cx} {K : PySem.W.Frag}
def iS (K : PySem.W.Frag) (p : Env → Mem → Res (List PyData × List Nat)) : TI := fun σ H R => ∃ env m g, Sg K env σ g H ∧ SimM K m g H ∧
  Rz K (p env m) g H fun q m' g' H' => ∀ J, WalkOk K J q.1 q.2 m' g' H' → same q.2 m' m' = true → R J H'
/-- a value that is walked: data, or a cell that stays -/
def SrcL (K : PySem.W.Frag) (a : Addr) (ds : List PyData) (gs : List Nat) (m0 : Mem) (g0 : G) (H0 : Hp) : Prop :=
  ∀ (m : Mem) (g : G) (H : Hp), Ext (g0.back nop) H0 (g.back nop) H → SimM K m g H → same gs m0 m = true → ∃ xs, Rd H a (.lst xs) ∧ RpAll K g.F H xs ds
theorem src_list {m : Mem} {g : G} {H : Hp} {x : V} {v : Val} {ds : List PyData} (S : SimM K m g H) (hf : ∀ xs, v ≠ .fr xs) (h : RpV K g H x v) (e : rd m v = some (.list ds)) :
    ∃ a, x = .ref a ∧ SrcL K a ds (guards [v]) m g H ∧ same (guards [v]) m m = true := by
  cases v with
  | d y =>
    have e' : y = .list ds := Option.some.inj e
    subst e'
    cases h with
    | lst a b => exact ⟨_, rfl, fun m1 g1 H1 e1 s1 _ => ⟨_, (Rl.ext e1 a).rd, RpAll.ext e1 _ b⟩, rfl⟩
  | fr xs => exact absurd rfl (hf xs)
  | mr k =>
    obtain ⟨a, rfl, q⟩ := h
    cases hm : m[k]? with
    | none => simp [rd, hm] at e
    | some c =>
      simp only [rd, hm, Option.map_some, Option.some.injEq, PyData.list.injEq] at e
      refine ⟨a, rfl, fun m1 g1 H1 e1 s1 sm => ?_, same_refl fun k' hk' => ?_⟩
      · obtain ⟨c0, c1, f1, f2, f3⟩ := same_at sm (k := k) (by simp [guards])
        rw [hm] at f1; cases f1
        obtain ⟨vs, h1, h2, _⟩ := s1.cell k c1 a f2 (e1.at q)
        rw [f3, e] at h2
        exact ⟨vs, .inl h1, h2⟩
      · simp [guards] at hk'
        subst hk'
        exact ⟨c, hm⟩
  | dv _ => cases e
theorem src_tup {m : Mem} {g : G} {H : Hp} {x : V} {v : Val} {ds : List PyData} (hf : ∀ xs, v ≠ .fr xs) (h : RpV K g H x v) (e : rd m v = some (.tuple ds)) :
    ∃ a xs, x = .ref a ∧ SqT K H a xs ∧ RpAll K g.F H xs ds ∧ guards [v] = [] := by
  cases v with
  | d y =>
    have e' : y = .tuple ds := Option.some.inj e
    subst e'
    cases h with
    | tup a b => exact ⟨_, _, rfl, a, b, rfl⟩
  | fr xs => exact absurd rfl (hf xs)
  | dv _ => cases e
  | mr k =>
    cases hm : m[k]? with
    | none => simp [rd, hm] at e
    | some c => simp [rd, hm] at e
theorem src_str {m : Mem} {g : G} {H : Hp} {x : V} {v : Val} {z : Str} (hf : ∀ xs, v ≠ .fr xs) (h : RpV K g H x v) (e : rd m v = some (.str z)) :
    x = .str z ∧ sOk z = true ∧ guards [v] = [] := by
  cases v with
  | d y =>
    have e' : y = .str z := Option.some.inj e
    subst e'
    cases h with
    | str _ b => exact ⟨rfl, b, rfl⟩
  | fr xs => exact absurd rfl (hf xs)
  | dv _ => cases e
  | mr k =>
    cases hm : m[k]? with
    | none => simp [rd, hm] at e
    | some c => simp [rd, hm] at e
theorem rd_len {m : Mem} {g : G} {H : Hp} {a : Addr} {xs : List V} (S : SimM K m g H) (h : Rd H a (.lst xs)) : xs.length ≤ sizeLine := by
  rcases h with h | ⟨o, h⟩
  · exact S.sz a xs (.inl h)
  · exact S.sz a xs (.inr (.inr (.inl ⟨o, h⟩)))
theorem sq_len {m : Mem} {g : G} {H : Hp} {a : Addr} {xs : List V} (S : SimM K m g H) (h : SqT K H a xs) : xs.length ≤ sizeLine := by
  rcases h with (h | ⟨o, h⟩) | ⟨o, its, n, _, _, _, h1, h2⟩
  · exact S.sz a xs (.inr (.inl h))
  · exact S.sz a xs (.inr (.inr (.inr ⟨o, h⟩)))
  · rw [h2.length]; simpa using h1
theorem walk_list {a : Addr} {ds : List PyData} {gs : List Nat} {m : Mem} {g : G} {H : Hp} (S : SimM K m g H) (h : SrcL K a ds gs m g H) (hr : same gs m m = true) : WalkOk K (Itl K a) ds gs m g H where
  len := by
    obtain ⟨xs, h1, h2⟩ := h m g H (Ext.refl _ H) S hr
    rw [← h2.length]; exact rd_len S h1
  go := fun i m1 g1 H1 e1 s1 sm hi => by
    obtain ⟨xs, h1, h2⟩ := h m1 g1 H1 e1 s1 sm
    obtain ⟨x, hx, _⟩ := h2.get (List.getElem?_eq_getElem hi)
    exact ⟨xs, x, .inl h1, hx⟩
  yld := fun i m1 g1 H1 x H' d e1 s1 sm hd hy => by
    obtain ⟨rfl, hy⟩ := hy
    obtain ⟨xs, h1, h2⟩ := h m1 g1 _ e1 s1 sm
    obtain ⟨y, hx, hr⟩ := h2.get hd
    have := hy xs (.inl h1)
    rw [hx] at this; cases this
    exact ⟨s1, Ext.refl _ _, hr⟩
  stop := fun i m1 g1 H1 e1 s1 sm hi => by
    obtain ⟨xs, h1, h2⟩ := h m1 g1 H1 e1 s1 sm
    exact ⟨xs, .inl h1, by rw [h2.length]; exact hi⟩
theorem walk_tup {a : Addr} {xs : List V} {ds : List PyData} {m : Mem} {g : G} {H : Hp} (S : SimM K m g H) (h : SqT K H a xs) (h2 : RpAll K g.F H xs ds) : WalkOk K (Itt K a) ds [] m g H where
  len := by rw [← h2.length]; exact sq_len S h
  go := fun i m1 g1 H1 e1 s1 sm hi => by
    obtain ⟨x, hx, _⟩ := h2.get (List.getElem?_eq_getElem hi)
    exact ⟨xs, x, SqT.ext e1 h, hx⟩
  yld := fun i m1 g1 H1 x H' d e1 s1 sm hd hy => by
    obtain ⟨rfl, hy⟩ := hy
    obtain ⟨y, hx, hr⟩ := h2.get hd
    have := hy xs (SqT.ext e1 h)
    rw [hx] at this; cases this
    exact ⟨s1, Ext.refl _ _, Rp.ext e1 _ hr⟩
  stop := fun i m1 g1 H1 e1 s1 sm hi => ⟨xs, SqT.ext e1 h, by rw [h2.length]; exact hi⟩
theorem walk_str {z : Str} {m : Mem} {g : G} {H : Hp} (hz : sOk z = true) : WalkOk K (Its z) (signs z) [] m g H where
  len := by
    have := sok_len hz
    unfold signs
    rw [List.length_map, Array.length_toList]; exact this
  go := fun i m1 g1 H1 e1 s1 sm hi => by
    show i < z.cps.size
    unfold signs at hi
    rw [List.length_map, Array.length_toList] at hi; exact hi
  yld := fun i m1 g1 H1 x H' d e1 s1 sm hd hy => by
    obtain ⟨rfl, c, hc, rfl⟩ := hy
    unfold signs at hd
    rw [List.getElem?_map, Array.getElem?_toList, hc] at hd
    simp at hd
    subst hd
    refine ⟨s1, Ext.refl _ _, .str _ (sok_one hz ?_)⟩
    exact List.mem_of_getElem? (by rw [Array.getElem?_toList]; exact hc)
  stop := fun i m1 g1 H1 e1 s1 sm hi => by
    show z.cps.size ≤ i
    unfold signs at hi
    rw [List.length_map, Array.length_toList] at hi; exact hi
theorem rangeD_len (lo : Int) : ∀ n, (rangeD lo n).length = n := by
  intro n
  induction n generalizing lo with
  | zero => rfl
  | succ n ih => simp [rangeD, ih]
theorem rangeD_get : ∀ (n : Nat) (lo : Int) (i : Nat), i < n → (rangeD lo n)[i]? = some (.int (lo + i))
  | 0, _, _, h => absurd h (Nat.not_lt_zero _)
  | n + 1, lo, 0, _ => by simp [rangeD]
  | n + 1, lo, i + 1, h => by
    simp only [rangeD, List.getElem?_cons_succ]
    rw [rangeD_get n (lo + 1) i (by omega)]
    congr 2
    push_cast
    omega
theorem walk_range {lo : Int} {n : Nat} {m : Mem} {g : G} {H : Hp} (hn : n ≤ sizeLine) : WalkOk K (Itr lo n) (rangeD lo n) [] m g H where
  len := by rw [rangeD_len]; exact hn
  go := fun i m1 g1 H1 e1 s1 sm hi => by
    rw [rangeD_len] at hi; exact hi
  yld := fun i m1 g1 H1 x H' d e1 s1 sm hd hy => by
    obtain ⟨rfl, rfl⟩ := hy
    have hi : i < n := by
      have := (List.getElem?_eq_some_iff.mp hd).1
      rw [rangeD_len] at this; exact this
    rw [rangeD_get n lo i hi] at hd
    cases hd
    exact ⟨s1, Ext.refl _ _, .int _⟩
  stop := fun i m1 g1 H1 e1 s1 sm hi => by
    rw [rangeD_len] at hi; exact hi
theorem zipD_get : ∀ (xs ys : List PyData) (i : Nat) (d : PyData), (zipD xs ys)[i]? = some d → ∃ x y, xs[i]? = some x ∧ ys[i]? = some y ∧ d = .tuple [x, y]
  | [], _, _, _, h => by simp [zipD] at h
  | _ :: _, [], _, _, h => by simp [zipD] at h
  | x :: xs, y :: ys, 0, d, h => by
    simp [zipD] at h
    exact ⟨x, y, rfl, rfl, h.symm⟩
  | x :: xs, y :: ys, i + 1, d, h => by
    simp only [zipD, List.getElem?_cons_succ] at h
    obtain ⟨a, b, h1, h2, h3⟩ := zipD_get xs ys i d h
    exact ⟨a, b, by simpa using h1, by simpa using h2, h3⟩
theorem zipD_len : ∀ (xs ys : List PyData), (zipD xs ys).length = min xs.length ys.length
  | [], ys => by simp [zipD]
  | _ :: _, [] => by simp [zipD]
  | x :: xs, y :: ys => by
    simp only [zipD, List.length_cons, zipD_len xs ys]; omega
theorem same_app {gs gs' : List Nat} {m m' : Mem} (h : same (gs ++ gs') m m' = true) : same gs m m' = true ∧ same gs' m m' = true :=
  ⟨same_of fun k hk => same_at h (List.mem_append_left _ hk), same_of fun k hk => same_at h (List.mem_append_right _ hk)⟩
theorem walk_zip {a b : Addr} {ds es : List PyData} {gs gs' : List Nat} {m : Mem} {g : G} {H : Hp} (S : SimM K m g H) (h : SrcL K a ds gs m g H) (h' : SrcL K b es gs' m g H) (hr : same (gs ++ gs') m m = true) :
    WalkOk K (Itz K a b) (zipD ds es) (gs ++ gs') m g H where
  len := by
    obtain ⟨xs, h1, h2⟩ := h m g H (Ext.refl _ H) S (same_app hr).1
    have := rd_len S h1
    rw [h2.length] at this
    rw [zipD_len]; omega
  go := fun i m1 g1 H1 e1 s1 sm hi => by
    obtain ⟨xs, h1, h2⟩ := h m1 g1 H1 e1 s1 (same_app sm).1
    obtain ⟨ys, h3, h4⟩ := h' m1 g1 H1 e1 s1 (same_app sm).2
    rw [zipD_len] at hi
    obtain ⟨x, hx, _⟩ := h2.get (List.getElem?_eq_getElem (show i < ds.length by omega))
    obtain ⟨y, hy, _⟩ := h4.get (List.getElem?_eq_getElem (show i < es.length by omega))
    exact ⟨xs, ys, x, y, .inl h1, .inl h3, hx, hy⟩
  yld := fun i m1 g1 H1 x H' d e1 s1 sm hd hy => by
    obtain ⟨T, x1, y1, rfl, nT, rfl, f1, f2⟩ := hy
    obtain ⟨xs, h1, h2⟩ := h m1 g1 H1 e1 s1 (same_app sm).1
    obtain ⟨ys, h3, h4⟩ := h' m1 g1 H1 e1 s1 (same_app sm).2
    obtain ⟨dx, dy, k1, k2, rfl⟩ := zipD_get ds es i d hd
    obtain ⟨x, hx, rx⟩ := h2.get k1
    obtain ⟨y, hy, ry⟩ := h4.get k2
    have q1 := f1 xs (.inl h1)
    have q2 := f2 ys (.inl h3)
    rw [hx] at q1; cases q1
    rw [hy] at q2; cases q2
    obtain ⟨a1, a2, a3⟩ := new_tup s1 nT (.cons rx (.cons ry .nil)) (by rw [sizeLine_eq]; show 2 ≤ 16777216; decide)
    exact ⟨a1, a2, a3⟩
  stop := fun i m1 g1 H1 e1 s1 sm hi => by
    obtain ⟨xs, h1, h2⟩ := h m1 g1 H1 e1 s1 (same_app sm).1
    obtain ⟨ys, h3, h4⟩ := h' m1 g1 H1 e1 s1 (same_app sm).2
    rw [zipD_len] at hi
    exact ⟨xs, ys, .inl h1, .inl h3, by rw [h2.length, h4.length]; omega⟩
theorem walk_zipT {a b : Addr} {xs ys : List V} {ds es : List PyData} {m : Mem} {g : G} {H : Hp} (S : SimM K m g H) (h : SqT K H a xs) (h2 : RpAll K g.F H xs ds) (h' : SqT K H b ys) (h4 : RpAll K g.F H ys es) :
    WalkOk K (RZ.ItzT K a b) (zipD ds es) [] m g H where
  len := by
    have := sq_len S h
    rw [h2.length] at this
    rw [zipD_len]; omega
  go := fun i m1 g1 H1 e1 s1 sm hi => by
    rw [zipD_len] at hi
    obtain ⟨x, hx, _⟩ := h2.get (List.getElem?_eq_getElem (show i < ds.length by omega))
    obtain ⟨y, hy, _⟩ := h4.get (List.getElem?_eq_getElem (show i < es.length by omega))
    exact ⟨xs, ys, x, y, SqT.ext e1 h, SqT.ext e1 h', hx, hy⟩
  yld := fun i m1 g1 H1 x H' d e1 s1 sm hd hy => by
    obtain ⟨T, x1, y1, rfl, nT, rfl, f1, f2⟩ := hy
    obtain ⟨dx, dy, k1, k2, rfl⟩ := zipD_get ds es i d hd
    obtain ⟨x, hx, rx⟩ := h2.get k1
    obtain ⟨y, hy, ry⟩ := h4.get k2
    have q1 := f1 xs (SqT.ext e1 h)
    have q2 := f2 ys (SqT.ext e1 h')
    rw [hx] at q1; cases q1
    rw [hy] at q2; cases q2
    obtain ⟨a1, a2, a3⟩ := new_tup s1 nT (.cons (Rp.ext e1 _ rx) (.cons (Rp.ext e1 _ ry) .nil)) (by rw [sizeLine_eq]; show 2 ≤ 16777216; decide)
    exact ⟨a1, a2, a3⟩
  stop := fun i m1 g1 H1 e1 s1 sm hi => by
    rw [zipD_len] at hi
    exact ⟨xs, ys, SqT.ext e1 h, SqT.ext e1 h', by rw [h2.length, h4.length]; omega⟩
theorem enumD_get : ∀ (n : Nat) (xs : List PyData) (i : Nat) (d : PyData), (enumD n xs)[i]? = some d → ∃ x, xs[i]? = some x ∧ d = .tuple [.int ((n + i : Nat) : Int), x]
  | _, [], _, _, h => by simp [enumD] at h
  | n, x :: xs, 0, d, h => by
    simp [enumD] at h
    exact ⟨x, rfl, by rw [← h]; simp⟩
  | n, x :: xs, i + 1, d, h => by
    simp only [enumD, List.getElem?_cons_succ] at h
    obtain ⟨a, h1, h3⟩ := enumD_get (n + 1) xs i d h
    exact ⟨a, by simpa using h1, by rw [h3]; congr 3; omega⟩
theorem enumD_len : ∀ (n : Nat) (xs : List PyData), (enumD n xs).length = xs.length
  | _, [] => rfl
  | n, x :: xs => by simp [enumD, enumD_len (n + 1) xs]
theorem walk_enum {a : Addr} {ds : List PyData} {gs : List Nat} {m : Mem} {g : G} {H : Hp} (S : SimM K m g H) (h : SrcL K a ds gs m g H) (hr : same gs m m = true) : WalkOk K (Ite K a) (enumD 0 ds) gs m g H where
  len := by
    obtain ⟨xs, h1, h2⟩ := h m g H (Ext.refl _ H) S hr
    rw [enumD_len, ← h2.length]; exact rd_len S h1
  go := fun i m1 g1 H1 e1 s1 sm hi => by
    obtain ⟨xs, h1, h2⟩ := h m1 g1 H1 e1 s1 sm
    rw [enumD_len] at hi
    obtain ⟨x, hx, _⟩ := h2.get (List.getElem?_eq_getElem hi)
    exact ⟨xs, x, .inl h1, hx⟩
  yld := fun i m1 g1 H1 x H' d e1 s1 sm hd hy => by
    obtain ⟨T, x1, rfl, nT, rfl, f1⟩ := hy
    obtain ⟨xs, h1, h2⟩ := h m1 g1 H1 e1 s1 sm
    obtain ⟨dx, k1, rfl⟩ := enumD_get 0 ds i d hd
    obtain ⟨x, hx, rx⟩ := h2.get k1
    have q1 := f1 xs (.inl h1)
    rw [hx] at q1; cases q1
    rw [Nat.zero_add]
    obtain ⟨a1, a2, a3⟩ := new_tup s1 nT (.cons (.int _) (.cons rx .nil)) (by rw [sizeLine_eq]; show 2 ≤ 16777216; decide)
    exact ⟨a1, a2, a3⟩
  stop := fun i m1 g1 H1 e1 s1 sm hi => by
    obtain ⟨xs, h1, h2⟩ := h m1 g1 H1 e1 s1 sm
    rw [enumD_len] at hi
    exact ⟨xs, .inl h1, by rw [h2.length]; exact hi⟩
end
end Ra


set_option Elab.async false
set_option linter.all false
set_option autoImplicit false
set_option maxRecDepth 100000
/-! enumerate(a tuple) -/
namespace Ra
open PySem PySem.Spec PyProof.Rows L2
section
variable {prog : Program} {w : World} {A : Around} {E : Value → Shared → Prop} {s : Shared}
set_option maxHeartbeats 1000000 in
theorem en_new {v : Value} {o : Obj} {HH : Heap → Prop} (B : Begins v o HH) :
    Meets (Builtin.«enumerate.__new__» ⟨[.type "enumerate", v], []⟩) (fun _ R s => HH s.heap ∧
      R (.ok (.ret (.ref (s.heap.push o).objs.size))) { s with heap := (s.heap.push o).push { cls := .type "enumerate", data := .fields #[.none, .bool false, .ref s.heap.objs.size, rawInt 0, .none, .none] } }) :=
  .of_wp fun prog w A R s h => by
    obtain ⟨hp, gg, dd, tk, os⟩ := s
    obtain ⟨k1, k2⟩ := h
    have hsub := sub_enumerate
    have go : ∀ {A' : Around} {E : Value → Shared → Prop} {Q : Value → Shared → Prop}, Q (.ref hp.objs.size) ⟨hp.push o, gg, dd, tk, os⟩ → wpAny (model prog w) A' (pyIter v) Q E ⟨hp, gg, dd, tk, os⟩ := fun q => B.iter _ _ _ _ _ _ k1 q
    wp_walk using go
    refine wpAny_stack_any fun st => wpAny_pure ?_
    split
    · rename_i c _ _ _ _ _
      by_cases hc : (c == Value.type "enumerate") = true
      · rw [hc]
        wp_walk using go
        exact ⟨_, rfl, k2⟩
      · rw [Bool.eq_false_iff.mpr hc]
        wp_walk using go
        exact ⟨_, rfl, k2⟩
    · wp_walk using go
      exact ⟨_, rfl, k2⟩
theorem en_call {l : Addr} {items : Array Value} {Q : Value → Shared → Prop} (hL : s.heap.IsTuple l items)
    (h : ∀ h', IsEnum h' (s.heap.objs.size + 1) s.heap.objs.size 0 .none → h'.IsTupleIter s.heap.objs.size l 0 → (∀ b o, s.heap.get? b = some o → h'.get? b = some o) → Q (.ref (s.heap.objs.size + 1)) { s with heap := h' }) :
    wpAny (model prog w) A (call (.type "enumerate") [.ref l]) Q E s := by
  refine callType_new F.called_enumerate (by decide) (F.typeCall_enumerate_1 _) (F.newCall_enumerate_1 _) (fun obj => F.args_object_init_2 obj _) F.entry_enumerate_new (en_new (begins_tuple l items)) ⟨hL, ?_⟩
  generalize hO : ({ cls := .type "tuple_iterator", data := .fields #[.ref l, .int 0 0] } : Obj) = oi
  have hz : (s.heap.push oi).objs.size = s.heap.objs.size + 1 := Heap.size_push ..
  show _ ∧ _
  rw [hz]
  generalize hP : ({ cls := .type "enumerate", data := .fields #[.none, .bool false, .ref s.heap.objs.size, rawInt 0, .none, .none] } : Obj) = oe
  have fO : oi.isFreed = false := by rw [← hO]; rfl
  have fP : oe.isFreed = false := by rw [← hP]; rfl
  have he : ((s.heap.push oi).push oe).get? (s.heap.objs.size + 1) = some oe := by
    have := Heap.get?_push_size (s.heap.push oi) (o := oe) fP
    rwa [hz] at this
  have hi : ((s.heap.push oi).push oe).get? s.heap.objs.size = some oi := Heap.get?_push_of_some _ (Heap.get?_push_size _ fO)
  refine ⟨⟨oe, he, by rw [← hP]⟩, h _ (by rw [← hP] at he ⊢; exact he) ⟨oi, hi, by rw [← hO], by rw [← hO]; rfl⟩ fun b o x => Heap.get?_push_of_some _ (Heap.get?_push_of_some _ x)⟩
theorem en_end {e it l : Addr} {i : Nat} {k : Int} {items : Array Value} {old : Value} {Q : Option Value → Shared → Prop} (hh : A.handled = none) (he : IsEnum s.heap e it k old) (hit : s.heap.IsTupleIter it l i) (hl : s.heap.IsTuple l items) (hle : items.size ≤ i)
    (hQ : ∀ h', Heap.ExtBut it s.heap h' → Q none { s with heap := h' }) : wpAny (model prog w) A (pyNext (.ref e)) Q E s := by
  have hT : s.TypeIs (.ref e) "enumerate" := ⟨_, he, rfl⟩
  unfold pyNext
  refine wpAny_bind (wpAny_attempt (wpAny_callSpecial?_slot (name := Str.ofString "__next__") hT F.slot_enumerate_next (wpAny_call_entry F.slot_enumerate_next hT F.entry_enumerate_next ?_ (F.args_enumerate_next_1 _))))
  show wpAny _ _ (field (.ref e) 2 >>= _) _ _ _
  refine wpAny_bind (wpAny_field he rfl (x := .ref it) rfl (wpAny_bind (wpAny_nextOf_tuple_end (A := A.in1) hh hit hl (Array.getElem?_eq_none hle) fun h' x he' hx' => ?_)))
  obtain ⟨o, ho, hc⟩ := hx'
  exact wpAny_bind (wpAny_isInstance (T := "StopIteration") (b := true) ⟨o, ho, hc⟩ isSubtype_stop (wpAny_pure (hQ _ he')))
end
/-- the tuple at a as it stands at each turn, the items in new pairs -/
def ItE (K : PySem.W.Frag) (a : Addr) : It :=
  ⟨fun i H => ∃ xs x, SqT K H a xs ∧ xs[i]? = some x,
    fun i H v H' => ∃ T x, v = .ref T ∧ H T = none ∧ H' = upd H T (.tup [.int (i : Nat), x]) ∧ ∀ xs, SqT K H a xs → xs[i]? = some x,
    fun i H => ∃ xs, SqT K H a xs ∧ xs.length ≤ i⟩
theorem en_turn {P : Program} {w : World} {K : PySem.W.Frag} {elts : List Expr} {kk : Nat} {tpos : Pos} (a e it : Addr) :
    Turn P w K (.Tuple elts kk tpos) (ItE K a) [e, it] e (fun i h => (∃ old, IsEnum h e it ((i : Nat) : Int) old) ∧ h.IsTupleIter it a i ∧ e ≠ it ∧ a ≠ it ∧ a ≠ e) where
  mem := by simp
  obj := fun i h st b hb => by
    obtain ⟨⟨old, he⟩, ⟨o, ho, hc, hd⟩, _⟩ := st
    simp only [List.mem_cons, List.not_mem_nil, or_false] at hb
    rcases hb with rfl | rfl
    · exact ⟨_, he, fun v q => nomatch q⟩
    · exact ⟨o, ho, fun v q => by rw [hd] at q; cases q⟩
  keep := fun i h h' st k => by
    obtain ⟨⟨old, he⟩, hi, hne⟩ := st
    exact ⟨⟨old, k e (by simp) _ he⟩, hi.at fun o q => k it (by simp) o q, hne⟩
  item := by
    intro X hP hw hK hc i pins s σ H E I hf st hg
    subst hP hw hK
    obtain ⟨⟨old, he⟩, hit, n1, n2, n3⟩ := st
    obtain ⟨xs, x, hq, hx⟩ := hg
    obtain ⟨its, rv, p, hz⟩ := I.tuple hq
    have ht : s.heap.IsTuple a its.toArray := p
    obtain ⟨u, hu, ru⟩ := rv.get hx
    have hel : e < s.heap.objs.size := Heap.lt_size he
    have hil : it < s.heap.objs.size := by obtain ⟨_, q, _⟩ := hit; exact Heap.lt_size q
    have hlt : i < its.toArray.size := by
      have := (List.getElem?_eq_some_iff.mp hu).1
      simpa using this
    have hD := Draws.tuple (prog := X.prog) (w := X.w) (A := X.A.in1) (I.ok.hd hc) it a n2 its.toArray
    refine wpAny_pyNext_enum_itemD hD he ⟨hit, ht⟩ hlt n1 (by
      simp only [List.mem_cons, List.not_mem_nil, or_false]
      rintro (z | z)
      · exact n1 z
      · exact n3 z.symm) fun y h' tk hy ho hst hT hsz hk => ?_
    have ey : y = u := by
      have q : its.toArray[i]? = some y := hy
      rw [List.getElem?_toArray, hu] at q
      exact (Option.some.inj q).symm
    subst ey
    refine ⟨_, rfl, wpAny_letOwnedTupleGo_enum (s := { s with heap := h', toks := tk + 1 }) ho fun h'' he' sb => ?_⟩
    have hT2 : h''.get? s.heap.objs.size = some { cls := .type "tuple", data := .seq #[.int i tk, y] } := (sb.2 _ (Nat.ne_of_gt hel)).trans hT
    have new : ObjOk X.prog X.w (upd H s.heap.objs.size (.tup [.int (i : Nat), x])) h'' s.heap.objs.size (.tup [.int (i : Nat), x]) :=
      ⟨by show 2 ≤ sizeLine; decide, [.int i tk, y], .cons ⟨_, rfl⟩ (.cons ru .nil), ⟨_, hT2, rfl, _, rfl⟩⟩
    have keep : ∀ b ob, b ∉ [e, it] → s.heap.get? b = some ob → h''.get? b = some ob := fun b ob hb q => by
      simp only [List.mem_cons, List.not_mem_nil, or_false, not_or] at hb
      exact (sb.2 b hb.1).trans (hk b ob hb.1 hb.2 q)
    have J := I.turnedNew (t' := tk + 1) (ch := [e, it]) keep hf (Nat.le_refl _) new
    refine ⟨.ref s.heap.objs.size, _, J, rfl, ⟨_, x, rfl, I.hok.fresh (Nat.le_refl _), rfl, fun ys hy => by rw [I.tuple_inj hy hq]; exact hx⟩, ⟨⟨y, ?_⟩, hst.1.at fun o q => (sb.2 it (Ne.symm n1)).trans q, n1, n2, n3⟩, fun b hb => ?_⟩
    · have e1 : ((i + 1 : Nat) : Int) = (i : Int) + 1 := by omega
      rw [e1]; exact he'
    · have hb' : b < s.heap.objs.size := by
        simp only [List.mem_cons, List.not_mem_nil, or_false] at hb
        rcases hb with rfl | rfl <;> assumption
      rw [upd_ne (Nat.ne_of_lt hb')]
      exact (hf b hb).1
  done := by
    intro X hP hw hK hc i pins s σ H E I hf st hg
    subst hP hw hK
    obtain ⟨⟨old, he⟩, hit, n1, n2, n3⟩ := st
    obtain ⟨xs, hq, hx⟩ := hg
    obtain ⟨its, rv, p, hz⟩ := I.tuple hq
    have ht : s.heap.IsTuple a its.toArray := p
    obtain ⟨f0, f1, f2, f3, f4, f5⟩ := hf it (by simp)
    have hle : its.toArray.size ≤ i := by
      have := rv.length
      simp only [List.size_toArray]
      omega
    exact en_end (I.ok.hd hc) he hit ht hle fun h' eb => ⟨rfl, I.turned (t' := s.toks) (fun b o hb q => eb b o hb q) f0 f1 f3 f4 f5⟩
  self := fun A i s Q E st h => by
    obtain ⟨⟨_, he⟩, _⟩ := st
    exact wpAny_pyIter_enum he h
theorem walk_enT {K : PySem.W.Frag} {a : Addr} {xs : List V} {ds : List PyData} {m : Mem} {g : G} {H : Hp} (S : SimM K m g H) (h : SqT K H a xs) (hr : RpAll K g.F H xs ds) : WalkOk K (ItE K a) (enumD 0 ds) [] m g H where
  len := by rw [enumD_len, ← hr.length]; exact sq_len S h
  go := fun i m1 g1 H1 e1 s1 sm hi => by
    rw [enumD_len] at hi
    obtain ⟨x, hx, _⟩ := hr.get (List.getElem?_eq_getElem hi)
    exact ⟨xs, x, SqT.ext e1 h, hx⟩
  yld := fun i m1 g1 H1 x H' d e1 s1 sm hd hy => by
    obtain ⟨T, x1, rfl, nT, rfl, f1⟩ := hy
    obtain ⟨dx, k1, rfl⟩ := enumD_get 0 ds i d hd
    obtain ⟨x, hx, rx⟩ := (RpAll.ext e1 _ hr).get k1
    have q1 := f1 xs (SqT.ext e1 h)
    rw [hx] at q1; cases q1
    rw [Nat.zero_add]
    obtain ⟨a1, a2, a3⟩ := new_tup s1 nT (.cons (.int _) (.cons rx .nil)) (by rw [sizeLine_eq]; show 2 ≤ 16777216; decide)
    exact ⟨a1, a2, a3⟩
  stop := fun i m1 g1 H1 e1 s1 sm hi => by
    rw [enumD_len] at hi
    exact ⟨xs, SqT.ext e1 h, by rw [hr.length]; exact hi⟩
def iEnT (K : PySem.W.Frag) (ta : TA) : TI := fun σ H R => ta σ H fun vs H1 => ∃ a xs, vs = [.ref a] ∧ SqT K H1 a xs ∧ R (ItE K a) H1
theorem pi_enT {X : Cx} {e : Expr} {ta : TA} {p pos tpos : Pos} {elts : List Expr} {kk : Nat} (hg : Gl X "enumerate") (hm : X.mg "enumerate" = none) (ha : PA X [e] ta) (hs : starEach [e] X.env = [(false, eval e X.env)]) :
    PI X (.Tuple elts kk tpos) (.Call (.Name "enumerate" p) [e] [] pos) (iEnT X.K ta) := by
  refine ⟨fun pins s σ H R I h => ?_⟩
  refine Call_ (ld_blt I hg hm boot_enumerate (PyProof.Rows.callWith_type1 (thn (ha.run pos pins s σ H _ I h) fun us s1 ⟨vs, H1, I1, r1, q1⟩ => ?_) hs rfl))
  obtain ⟨a, xs, rfl, hq, q⟩ := q1
  rw [Vals.ref1 r1]
  obtain ⟨its, rv, p', hz⟩ := I1.tuple hq
  have ht : s1.heap.IsTuple a its.toArray := p'
  have hlt : a < s1.heap.objs.size := by
    obtain ⟨o, ho, _⟩ := ht
    exact Heap.lt_size ho
  refine en_call ht fun h' he hit hk => wpAny_pyIter_enum he ?_
  have I2 : Inv X pins σ H1 { s1 with heap := h' } := I1.kept (t' := s1.toks) hk
  refine ⟨s1.heap.objs.size + 1, [s1.heap.objs.size + 1, s1.heap.objs.size], _, _, H1, rfl, I2, en_turn a (s1.heap.objs.size + 1) s1.heap.objs.size, ⟨⟨.none, he⟩, hit, Nat.succ_ne_self _, Nat.ne_of_lt hlt, Nat.ne_of_lt (Nat.lt_succ_of_lt hlt)⟩, fun b hb => ?_, q⟩
  have hle : s1.heap.objs.size ≤ b := by
    simp only [List.mem_cons, List.not_mem_nil, or_false] at hb
    rcases hb with rfl | rfl
    · exact Nat.le_succ _
    · exact Nat.le_refl _
  exact I1.fpOk hle (I1.hok.fresh hle)
end Ra


set_option Elab.async false
set_option linter.all false
set_option autoImplicit false
set_option maxRecDepth 100000
/-! what is walked, as an expression; comprehensions; loops -/
namespace Ra
open PySem PySem.Spec PyProof.Rows L2
section
variable {X : Cx} {tg e : Expr} {es : List Expr} {p : P} {ps : List P} {pos : Pos}
theorem srcR_one {K : PySem.W.Frag} {k : Sk} {env : Env} {m : Mem} {g : G} {H : Hp} {Q : (List PyData × List Nat) → Mem → G → Hp → Prop} (h : Rz K (srcR k [p] env m) g H Q) :
    Rz K (p.v env m) g H fun v m1 g1 H1 => ∃ x is, rd m1 v.nf = some x ∧ walk k [x] = some is ∧ Rz K (.ok (is, guards [v.nf]) m1) g1 H1 Q := by
  unfold srcR at h
  simp only [cArgs] at h
  cases hv : p.v env m with
  | fail => rw [hv] at h; exact h.elim
  | exc a b => rw [hv] at h; exact h.elim
  | ok v m1 =>
    rw [hv] at h
    simp only [Res.bind_ok] at h
    intro g1 H1 e1 s1
    obtain ⟨xs, hx, h2⟩ := Rz.optBind (h.ext e1)
    obtain ⟨is, hi, h3⟩ := Rz.optBind h2
    clear h h2
    simp only [lookAll] at hx
    cases hr : rd m1 v.nf with
    | none => rw [hr] at hx; cases hx
    | some x =>
      rw [hr] at hx
      cases hx
      exact ⟨x, is, rfl, hi, h3⟩
theorem pi_seqR (ha : PE X e (tE X.K p.v)) : PI X tg e (iS X.K (srcR .seq [p])) := by
  refine PI.weak (PI.or (pi_list ha) (PI.or (pi_tup ha) (pi_str ha))) fun σ H R ⟨env, m, g, hs, hm, hz⟩ => ?_
  have hz' := srcR_one hz
  cases hv : p.v env m with
  | fail => rw [hv] at hz'; exact hz'.elim
  | exc a b => rw [hv] at hz'; exact hz'.elim
  | ok v m1 =>
    rw [hv] at hz'
    by_cases hd : ∃ x, rd m1 v.nf = some x
    · obtain ⟨d, hd⟩ := hd
      cases d with
      | list ds =>
        refine .inl ⟨env, m, g, hs, hm, ?_⟩
        rw [hv]
        intro g1 H1 e1 s1 x rx
        obtain ⟨y, is, h1, h2, h3⟩ := hz' g1 H1 e1 s1
        rw [hd] at h1; cases h1
        cases h2
        obtain ⟨g2, s2, e2, r2⟩ := s1.hold rx
        obtain ⟨a, rfl, h4, h5⟩ := src_list s2 (nf_ne v) r2 hd
        obtain ⟨xs, h6, _⟩ := h4 m1 g2 H1 (Ext.refl _ _) s2 h5
        exact ⟨a, rfl, ⟨xs, .inl h6⟩, Rz.ok_now (h3.ext e2) s2 _ (walk_list s2 h4 h5) h5⟩
      | tuple ds =>
        refine .inr (.inl ⟨env, m, g, hs, hm, ?_⟩)
        rw [hv]
        intro g1 H1 e1 s1 x rx
        obtain ⟨y, is, h1, h2, h3⟩ := hz' g1 H1 e1 s1
        rw [hd] at h1; cases h1
        cases h2
        obtain ⟨g2, s2, e2, r2⟩ := s1.hold rx
        obtain ⟨a, xs, rfl, h4, h5, h6⟩ := src_tup (nf_ne v) r2 hd
        rw [h6] at h3
        exact ⟨a, rfl, ⟨xs, h4⟩, Rz.ok_now (h3.ext e2) s2 _ (walk_tup s2 h4 h5) rfl⟩
      | str z =>
        refine .inr (.inr ⟨env, m, g, hs, hm, ?_⟩)
        rw [hv]
        intro g1 H1 e1 s1 x rx
        obtain ⟨y, is, h1, h2, h3⟩ := hz' g1 H1 e1 s1
        rw [hd] at h1; cases h1
        cases h2
        obtain ⟨g2, s2, e2, r2⟩ := s1.hold rx
        obtain ⟨rfl, h5, h6⟩ := src_str (nf_ne v) r2 hd
        rw [h6] at h3
        exact ⟨z, rfl, Rz.ok_now (h3.ext e2) s2 _ (walk_str h5) rfl⟩
      | none | bool _ | int _ | dict _ =>
        refine .inl ⟨env, m, g, hs, hm, ?_⟩
        rw [hv]
        intro g1 H1 e1 s1 x rx
        obtain ⟨y, is, h1, h2, h3⟩ := hz' g1 H1 e1 s1
        rw [hd] at h1; cases h1
        cases h2
    · refine .inl ⟨env, m, g, hs, hm, ?_⟩
      rw [hv]
      intro g1 H1 e1 s1 x rx
      obtain ⟨y, is, h1, _⟩ := hz' g1 H1 e1 s1
      exact absurd ⟨y, h1⟩ hd
theorem guards_d {m : Mem} {i : Int} {v : Val} (h : rd m v = some (.int i)) (hf : ∀ xs, v ≠ .fr xs) : guards [v] = [] := by
  cases v with
  | d _ => rfl
  | fr xs => exact absurd rfl (hf xs)
  | dv _ => cases h
  | mr k =>
    cases hm : m[k]? with
    | none => simp [rd, hm] at h
    | some c => simp [rd, hm] at h
theorem pi_rangeR {q : Pos} (hg : Gl X "range") (hm : X.mg "range" = none) (ha : PE X e (tE X.K p.v)) (ns : notStar e = true) : PI X tg (.Call (.Name "range" q) [e] [] pos) (iS X.K (srcR .range [p])) := by
  refine PI.weak (pi_range1 hg hm (pa_cons ha pa_nil (star1 ns _ _)) (by rw [star1 ns]; rfl)) fun σ H R ⟨env, m, g, hs, hm, hz⟩ => ?_
  refine ⟨env, m, g, hs, hm, (srcR_one hz).mono fun v m1 g1 H1 e1 s1 ⟨d, is, h1, h2, h3⟩ x rx => ?_⟩
  obtain ⟨g2, s2, e2, r2⟩ := s1.hold rx
  unfold walk at h2
  split at h2 <;> first | contradiction | skip
  rename_i n heq1 heq2
  have hd : d = .int n := by simpa using heq2
  subst hd
  split at h2
  · rename_i hb
    cases h2
    have ex := (s2.read (nf_ne v) r2 h1).int
    subst ex
    rw [guards_d h1 (nf_ne v)] at h3
    refine ⟨n, rfl, by omega, by omega, Rz.ok_now (h3.ext e2) s2 _ (walk_range ?_) rfl⟩
    rw [sizeLine_eq]; omega
  · cases h2
theorem cArgs_two {K : PySem.W.Frag} {p p' : P} {env : Env} {m : Mem} {g : G} {H : Hp} {k : Sk} {Q : (List PyData × List Nat) → Mem → G → Hp → Prop} (h : Rz K (srcR k [p, p'] env m) g H Q) :
    Rz K (cArgs [p, p'] env m) g H fun vs m1 g1 H1 => ∃ v v' x y is, vs = [v, v'] ∧ rd m1 v = some x ∧ rd m1 v' = some y ∧ walk k [x, y] = some is ∧ Rz K (.ok (is, guards [v, v']) m1) g1 H1 Q := by
  unfold srcR at h
  cases hv : cArgs [p, p'] env m with
  | fail => rw [hv] at h; exact h.elim
  | exc a b => rw [hv] at h; exact h.elim
  | ok vs m1 =>
    rw [hv] at h
    simp only [Res.bind_ok] at h
    intro g1 H1 e1 s1
    obtain ⟨xs, hx, h2⟩ := Rz.optBind (h.ext e1)
    obtain ⟨is, hi, h3⟩ := Rz.optBind h2
    clear h h2
    have hvs : ∃ v v', vs = [v, v'] := by
      simp only [cArgs] at hv
      cases h1 : p.v env m with
      | fail => rw [h1] at hv; simp at hv
      | exc a b => rw [h1] at hv; simp at hv
      | ok a b =>
        rw [h1] at hv; simp only [Res.bind_ok] at hv
        cases h2 : p'.v env b with
        | fail => rw [h2] at hv; simp at hv
        | exc a b => rw [h2] at hv; simp at hv
        | ok c d =>
          rw [h2] at hv; simp only [Res.bind_ok, Res.ok.injEq] at hv
          exact ⟨_, _, hv.1.symm⟩
    obtain ⟨v, v', rfl⟩ := hvs
    simp only [lookAll] at hx
    cases hr : rd m1 v with
    | none => rw [hr] at hx; simp at hx
    | some x =>
      cases hr' : rd m1 v' with
      | none => rw [hr, hr'] at hx; simp at hx
      | some y =>
        rw [hr, hr'] at hx
        simp at hx
        subst hx
        exact ⟨v, v', x, y, is, rfl, hr, hr', hi, h3⟩
theorem guards_app (v v' : Val) : guards [v, v'] = guards [v] ++ guards [v'] := by
  cases v <;> rfl
theorem pi_zipR {e' : Expr} {p' : P} {q tpos : Pos} {elts : List Expr} {kk : Nat} (hg : Gl X "zip") (hm : X.mg "zip" = none) (ha : PE X e (tE X.K p.v)) (hb : PE X e' (tE X.K p'.v)) (ns : notStar e = true) (ns' : notStar e' = true) :
    PI X (.Tuple elts kk tpos) (.Call (.Name "zip" q) [e, e'] [] pos) (iS X.K (srcR .zip [p, p'])) := by
  refine PI.weak (RZ.pi_zipA hg hm (pa_args_cons ha (pa_args_cons hb pa_args_nil ns') ns) (star1 ns _ _) (star_plain _ _ _ (by simp [ns']))) fun σ H R ⟨env, m, g, hs, hm, hz⟩ => ?_
  refine ⟨env, m, g, hs, hm, (cArgs_two hz).mono fun vs m1 g1 H1 e1 s1 hq xs rxs => ?_⟩
  obtain ⟨v, v', x, y, is, rfl, h1, h2, h3, h4⟩ := hq
  cases rxs with
  | cons r hf t =>
    cases t with
    | cons r' hf' t' =>
      cases t'
      unfold walk at h3
      split at h3 <;> first | contradiction | skip
      · rename_i ds es heq1 heq2
        obtain ⟨rfl, rfl⟩ : x = .list ds ∧ y = .list es := by simpa using heq2
        cases h3
        obtain ⟨a, rfl, k1, k2⟩ := src_list s1 hf r h1
        obtain ⟨b, rfl, k3, k4⟩ := src_list s1 hf' r' h2
        have hr : same (guards [v] ++ guards [v']) m1 m1 = true := same_of fun k hk => by
          rcases List.mem_append.mp hk with hk | hk
          · exact same_at k2 hk
          · exact same_at k4 hk
        obtain ⟨xs, k5, _⟩ := k1 m1 g1 H1 (Ext.refl _ _) s1 k2
        obtain ⟨ys, k6, _⟩ := k3 m1 g1 H1 (Ext.refl _ _) s1 k4
        rw [guards_app] at h4
        exact ⟨a, b, xs, ys, rfl, .inl ⟨.inl k5, .inl k6, Rz.ok_now h4 s1 _ (walk_zip s1 k1 k3 hr) hr⟩⟩
      · rename_i ds es heq1 heq2
        obtain ⟨rfl, rfl⟩ : x = .tuple ds ∧ y = .tuple es := by simpa using heq2
        cases h3
        obtain ⟨a, xs, rfl, k1, k2, k3⟩ := src_tup hf r h1
        obtain ⟨b, ys, rfl, k4, k5, k6⟩ := src_tup hf' r' h2
        rw [guards_app, k3, k6] at h4
        exact ⟨a, b, xs, ys, rfl, .inr ⟨k1, k4, Rz.ok_now h4 s1 _ (walk_zipT s1 k1 k2 k4 k5) rfl⟩⟩
theorem pi_enumR {q tpos : Pos} {elts : List Expr} {kk : Nat} (hg : Gl X "enumerate") (hm : X.mg "enumerate" = none) (ha : PE X e (tE X.K p.v)) (ns : notStar e = true) :
    PI X (.Tuple elts kk tpos) (.Call (.Name "enumerate" q) [e] [] pos) (iS X.K (srcR .enum [p])) := by
  have hst : starEach [e] X.env = [(false, eval e X.env)] := by rw [star1 ns]; rfl
  refine PI.weak (PI.or (pi_enum hg hm (pa_cons ha pa_nil (star1 ns _ _)) hst) (pi_enT hg hm (pa_cons ha pa_nil (star1 ns _ _)) hst)) fun σ H R ⟨env, m, g, hs, hm, hz⟩ => ?_
  have hz' := srcR_one hz
  cases hv : p.v env m with
  | fail => rw [hv] at hz'; exact hz'.elim
  | exc a b => rw [hv] at hz'; exact hz'.elim
  | ok v m1 =>
    rw [hv] at hz'
    by_cases hd : ∃ ds, rd m1 v.nf = some (.tuple ds)
    · obtain ⟨ds, hd⟩ := hd
      refine .inr ⟨env, m, g, hs, hm, ?_⟩
      rw [hv]
      intro g1 H1 e1 s1 x rx
      obtain ⟨y, is, h1, h2, h3⟩ := hz' g1 H1 e1 s1
      rw [hd] at h1
      cases h1
      obtain rfl : enumD 0 ds = is := Option.some.inj h2
      obtain ⟨g2, s2, e2, r2⟩ := s1.hold rx
      obtain ⟨a, xs, rfl, h4, h5, h6⟩ := src_tup (nf_ne v) r2 hd
      rw [h6] at h3
      exact ⟨a, xs, rfl, h4, Rz.ok_now (h3.ext e2) s2 _ (walk_enT s2 h4 h5) rfl⟩
    · refine .inl ⟨env, m, g, hs, hm, ?_⟩
      rw [hv]
      intro g1 H1 e1 s1 x rx
      obtain ⟨d, is, h1, h2, h3⟩ := hz' g1 H1 e1 s1
      obtain ⟨g2, s2, e2, r2⟩ := s1.hold rx
      unfold walk at h2
      split at h2 <;> first | contradiction | skip
      · rename_i ds heq1 heq2
        obtain rfl : d = .list ds := by simpa using heq2
        cases h2
        obtain ⟨a, rfl, k1, k2⟩ := src_list s2 (nf_ne v) r2 h1
        obtain ⟨xs, k5, _⟩ := k1 m1 g2 H1 (Ext.refl _ _) s2 k2
        exact ⟨a, xs, rfl, .inl k5, Rz.ok_now (h3.ext e2) s2 _ (walk_enum s2 k1 k2) k2⟩
      · rename_i ds heq1 heq2
        obtain rfl : d = .tuple ds := by simpa using heq2
        exact absurd ⟨ds, h1⟩ hd
end
end Ra


set_option Elab.async false
set_option linter.all false
set_option autoImplicit false
set_option maxRecDepth 100000
/-! comprehensions and loops -/
namespace Ra
open PySem PySem.Spec PyProof.Rows L2
section
variable {K : PySem.W.Frag} {m m' : Mem} {g g' : G} {H H' : Hp} {D : Addr} {acc : List V}
theorem prot {o : HO} (S : SimM K m g H) (hD : H D = some o) (nF : ¬ g.F D) (nA : D ∉ g.ad) : SimM K m (g.hold D) H :=
  ⟨S.fs, S.len, S.nd, S.cell, S.sz, fun a h => by
    rcases h with rfl | h
    · exact ⟨_, hD⟩
    · exact S.prs a h, fun a h => by
    rcases h with rfl | h
    · exact nF
    · exact S.prF a h, fun a h => by
    rcases h with rfl | h
    · exact nA
    · exact S.prA a h⟩
theorem unprot (S : SimM K m' g' H') (e : Ext (g.hold D) H g' H') : SimM K m' (g'.back g.pr) H' ∧ Ext g H (g'.back g.pr) H' ∧ H' D = H D ∧ ¬ g'.F D ∧ D ∉ g'.ad := by
  have hp : ∀ a, g.pr a → g'.pr a := fun a h => by rw [e.pre]; exact .inr h
  have hD : g'.pr D := by rw [e.pre]; exact .inl rfl
  exact ⟨⟨S.fs, S.len, S.nd, S.cell, S.sz, fun a h => S.prs a (hp a h), fun a h => S.prF a (hp a h), fun a h => S.prA a (hp a h)⟩,
    ⟨e.sub, e.fix, e.tup, e.frz, e.ads, rfl, fun a h => e.keep a (.inr h)⟩, e.keep D (.inl rfl), S.prF D hD, S.prA D hD⟩
theorem up_own {ws : List V} (S : SimM K m g H) (hD : H D = some (.lst acc)) (nF : ¬ g.F D) (nA : D ∉ g.ad) (nP : ¬ g.pr D) (hz : ws.length ≤ sizeLine) : SimM K m g (upd H D (.lst ws)) ∧ Ext g H g (upd H D (.lst ws)) := by
  have e : Ext g H g (upd H D (.lst ws)) := ⟨fun _ h => h, fun b hb => by
    have z : b ≠ D := fun z => nF (by rw [← z]; exact hb)
    rw [upd_ne z], fun b xs hb => by rw [upd_ne (ne_of hb hD (by intro z; cases z))]; exact hb, fun b o u hb => by rw [upd_ne (ne_of hb hD (by intro z; cases z))]; exact hb, ⟨[], by simp⟩, rfl, fun b hb => by
    have z : b ≠ D := fun z => nP (by rw [← z]; exact hb)
    rw [upd_ne z]⟩
  refine ⟨⟨fun b hb => ?_, S.len, S.nd, fun k c b h1 h2 => ?_, fun b xs hb => ?_, fun b hb => ?_, S.prF, S.prA⟩, e⟩
  · obtain ⟨xs, z⟩ := S.fs b hb
    exact ⟨xs, (e.fix b hb).trans z⟩
  · obtain ⟨us, p', q', r', t'⟩ := S.cell k c b h1 h2
    have nb : b ≠ D := fun z => nA (by rw [← z]; exact List.mem_of_getElem? h2)
    exact ⟨us, by rw [upd_ne nb]; exact p', RpAll.ext e _ q', r', t'⟩
  · by_cases hb' : b = D
    · subst hb'
      rw [upd_same] at hb
      rcases hb with z | z | ⟨_, z⟩ | ⟨_, z⟩
      · cases z; exact hz
      · cases z
      · cases z
      · cases z
    · rw [upd_ne hb'] at hb
      exact S.sz b xs hb
  · obtain ⟨o', q'⟩ := S.prs b hb
    exact ⟨o', (e.keep b hb).trans q'⟩
theorem Sg.pr {env : Env} {σ : L2.St} {F : Addr → Prop} {ad : List Addr} {pr pr' : Addr → Prop} (s : Sg K env σ ⟨F, ad, pr⟩ H) : Sg K env σ ⟨F, ad, pr'⟩ H := ⟨s.len, fun i v h => by
  obtain ⟨x, h1, h2, h3⟩ := s.at_ i v h
  refine ⟨x, h1, ?_, h3⟩
  cases v with
  | d _ => exact h2
  | fr xs => exact absurd rfl (h3 xs)
  | dv _ => exact h2
  | mr _ => exact h2⟩
end
theorem wipe_get (σ : L2.St) (i : Nat) : ∀ vs : List Nat, (L2.wipe σ vs)[i]? = if i ∈ vs then (σ[i]?).map (fun _ => none) else σ[i]?
  | [] => by simp [L2.wipe]
  | v :: vs => by
    show ((L2.wipe σ vs).set v none)[i]? = _
    rw [List.getElem?_set]
    by_cases h : v = i
    · subst h
      rw [if_pos rfl, wipe_length]
      by_cases h2 : v < σ.length
      · simp [h2]
      · simp [h2]
    · rw [if_neg h, wipe_get σ i vs]
      have : (i ∈ v :: vs) ↔ i ∈ vs := by
        simp [Ne.symm h]
      simp [this]
theorem wipe_wipe (σ : L2.St) (vs : List Nat) : L2.wipe (L2.wipe σ vs) vs = L2.wipe σ vs := by
  apply List.ext_getElem?
  intro i
  rw [wipe_get, wipe_get]
  by_cases h : i ∈ vs
  · rw [if_pos h, if_pos h, Option.map_map]; rfl
  · rw [if_neg h]
section
variable {X : Cx} {K : PySem.W.Frag}
/-- the loop of a comprehension, behind its source -/
theorem lc_loop {t : Tg} {ps : List P} {elt : P} {own : List Nat} {J : It} {is : List PyData} {gs : List Nat} {env : Env} {m0 : Mem} {g0 : G} {H0 : Hp} {σ : L2.St} {Q : VK} (hs : Sg K env σ g0 H0) (S0 : SimM K m0 g0 H0)
    (W : WalkOk K J is gs m0 g0 H0) (hr : same gs m0 m0 = true) (hsl : ∀ i ∈ slots t, i ∈ own) (hz : Rz K ((lcLoop t ps elt gs (wipe env own) is m0).bind fun ys m2 => .ok (.fr ys) m2) g0 H0 (Ans K Q)) :
    ∀ D, H0 D = none → ∃ W : Nat → Nat → Hp → Prop, (∃ m, W 0 m (upd H0 D (.lst []))) ∧ ∀ i m H, W i m H → (J.stop i H ∧ Q (.ref D) H) ∨ (J.go i H ∧ ∃ Nx : Hp → Prop, (∀ H', Nx H' → ∃ m', m' < m ∧ W (i + 1) m' H') ∧
      ∀ x H', J.yld i H x H' → gT K t x (L2.wipe σ own) H' fun σ2 H2 => L2.wipe σ2 own = L2.wipe σ own ∧ tT K (tAll ps) σ2 H2 fun b H3 =>
        if b = true then tE K elt.v σ2 H3 fun y H4 => ∃ acc, H4 D = some (.lst acc) ∧ acc.length < sizeLine ∧ Nx (upd H4 D (.lst (acc ++ [y]))) else Nx H3) := by
  intro D hD
  refine ⟨fun i n H => ∃ (m : Mem) (g : G) (acc : List V) (ys : List PyData), i + n = is.length ∧ Ext g0 H0 g H ∧ SimM K m g H ∧ same gs m0 m = true ∧ H D = some (.lst acc) ∧ RpAll K g.F H acc ys ∧ ¬ g.F D ∧ D ∉ g.ad ∧ ¬ g.pr D ∧ acc.length ≤ i ∧
      Rz K (lcLoop t ps elt gs (wipe env own) (is.drop i) m) g H fun zs m' g' H' => ∀ x, RpV K g' H' x (.fr (ys ++ zs)) → Q x H', ⟨is.length, m0, g0, [], [], ?_⟩, fun i n H hW => ?_⟩
  · have e1 := ext_new (o := .lst []) S0 hD
    refine ⟨by omega, e1, sim_new S0 hD (Nat.zero_le _), hr, upd_same, .nil, not_F S0 hD, not_ad S0 hD, not_pr S0 hD, Nat.le_refl _, ?_⟩
    rw [List.drop_zero]
    exact ((Rz.bind hz).mono fun ys m2 g2 H2 e2 s2 z2 => Rz.ok_now z2 s2).ext e1
  · obtain ⟨m, g, acc, ys, hn, e, S, sm, hA, hR, nF, nA, nP, hl, hZ⟩ := hW
    by_cases hi : i < is.length
    · have hdi : is[i]? = some is[i] := List.getElem?_eq_getElem hi
      have hdrop : is.drop i = is[i] :: is.drop (i + 1) := List.drop_eq_getElem_cons hi
      rw [hdrop] at hZ
      simp only [lcLoop] at hZ
      refine .inr ⟨W.go i m g H e.toBack S sm hi, fun H' => ∃ (m : Mem) (g : G) (acc : List V) (ys : List PyData), Ext g0 H0 g H' ∧ SimM K m g H' ∧ same gs m0 m = true ∧ H' D = some (.lst acc) ∧ RpAll K g.F H' acc ys ∧ ¬ g.F D ∧ D ∉ g.ad ∧ ¬ g.pr D ∧ acc.length ≤ i + 1 ∧
        Rz K (lcLoop t ps elt gs (wipe env own) (is.drop (i + 1)) m) g H' fun zs m' g' H' => ∀ x, RpV K g' H' x (.fr (ys ++ zs)) → Q x H', fun H' hN => ?_, fun x H' hy => ?_⟩
      · obtain ⟨m', g', acc', ys', a1, a2, a3, a4, a5, a6, a7, a8, a9, a10⟩ := hN
        exact ⟨n - 1, by omega, m', g', acc', ys', by omega, a1, a2, a3, a4, a5, a6, a7, a8, a9, a10⟩
      · obtain ⟨S1, e1, r1⟩ := W.yld i m g H x H' is[i] e.toBack S sm hdi hy
        have hs1 : Sg K (wipe env own) (L2.wipe σ own) g H' := ((hs.ext e).ext e1).wipe own
        have hZ1 := hZ.ext e1
        cases ha : asg t is[i] (wipe env own) with
        | none => rw [ha] at hZ1; exact hZ1.elim
        | some env' =>
          rw [ha] at hZ1
          refine ⟨_, g, _, env', hs1, r1, ha, fun σ2 hs2 w2 => ⟨?_, ?_⟩⟩
          · rw [w2 own hsl]
            exact wipe_wipe σ own
          · have hA1 : H' D = some (.lst acc) := by
              have q := (W.yld i m (g.hold D) H x H' is[i] e.toBack (prot S hA nF nA) sm hdi hy).2.1.keep D (.inl rfl)
              exact q.trans hA
            have hR1 := RpAll.ext e1 _ hR
            have S2 := prot S1 hA1 nF nA
            have hz1 : Rz K ((tAll ps env' m).bind fun b m1 => if b = true then (elt.v env' m1).bind fun v m2 => (frz v m2).bind fun y m3 =>
                if same gs m m3 = true then (lcLoop t ps elt gs (wipe env own) (is.drop (i + 1)) m3).bind fun ys m4 => .ok (y :: ys) m4 else .fail
              else if same gs m m1 = true then lcLoop t ps elt gs (wipe env own) (is.drop (i + 1)) m1 else .fail) g H' fun zs m' g' H' => ∀ x, RpV K g' H' x (.fr (ys ++ zs)) → Q x H' := hZ1
            have hz00 := hz1
            refine ⟨env', m, g.hold D, Sg.pr hs2, S2, ?_⟩
            cases ht : tAll ps env' m with
            | fail => rw [ht] at hz1; exact hz1.elim
            | exc a b => rw [ht] at hz1; exact hz1.elim
            | ok b m1 =>
              rw [ht, Res.bind_ok] at hz1
              intro g2 H2 e2 s2
              obtain ⟨s2', e2', hD2, nF2, nA2⟩ := unprot s2 e2
              have hA2 : H2 D = some (.lst acc) := hD2.trans hA1
              have hz2 := hz1.ext e2'
              cases b with
              | false =>
                simp only [Bool.false_eq_true, if_false] at hz2 ⊢
                split at hz2
                · rename_i hsm
                  exact ⟨m1, _, acc, ys, (e.trans e1).trans e2', s2', same_trans sm hsm, hA2, RpAll.ext e2' _ hR1, nF2, nA2, nP, by omega, hz2⟩
                · exact hz2.elim
              | true =>
                simp only [if_true] at hz2 ⊢
                refine ⟨env', m1, g2, (Sg.pr hs2).ext e2, s2, ?_⟩
                cases hv : elt.v env' m1 with
                | fail => rw [hv] at hz2; exact hz2.elim
                | exc a b => rw [hv] at hz2; exact hz2.elim
                | ok v m2 =>
                  rw [hv, Res.bind_ok] at hz2
                  intro g3 H3 e3 s3 y ry
                  cases hf : frz v m2 with
                  | fail => rw [hf] at hz2; exact hz2.elim
                  | exc a b => rw [hf] at hz2; exact hz2.elim
                  | ok d m3 =>
                    rw [hf, Res.bind_ok] at hz2
                    obtain ⟨g4, s4, e4, r4⟩ := s3.frz ry hf
                    obtain ⟨s4', e4', hD4, nF4, nA4⟩ := unprot s4 ((e2.trans e3).trans e4)
                    have hA4 : H3 D = some (.lst acc) := hD4.trans hA1
                    split at hz2
                    · rename_i hsm
                      have hlt : acc.length < sizeLine := Nat.lt_of_le_of_lt hl (Nat.lt_of_lt_of_le hi W.len)
                      have r4' : Rp K (g4.back g.pr).F H3 y d := r4
                      have hR4 := RpAll.ext e4' _ hR1
                      have hz : (acc ++ [y]).length ≤ sizeLine := by simp; omega
                      obtain ⟨s5, e5⟩ := up_own (ws := acc ++ [y]) s4' hA4 nF4 nA4 nP hz
                      refine ⟨acc, hA4, hlt, m3, g4.back g.pr, acc ++ [y], ys ++ [d], ((e.trans e1).trans e4').trans e5, s5, same_trans sm hsm, upd_same, RpAll.ext e5 _ (hR4.append (.cons r4' .nil)), nF4, nA4, nP, by simp; omega, ?_⟩
                      have hz3 : Rz K ((lcLoop t ps elt gs (wipe env own) (is.drop (i + 1)) m3).bind fun ys m4 => .ok (d :: ys) m4) g H' fun zs m' g' H' => ∀ x, RpV K g' H' x (.fr (ys ++ zs)) → Q x H' := by
                        rw [ht, Res.bind_ok, if_pos rfl, hv, Res.bind_ok, hf, Res.bind_ok, if_pos hsm] at hz00
                        exact hz00
                      refine ((Rz.bind hz3).ext (e4'.trans e5)).mono fun zs m6 g6 H6 e6 s6 z6 x rx => ?_
                      have q := Rz.ok_now z6 s6 x
                      rw [List.append_assoc] at rx
                      exact q rx
                    · exact hz2.elim
    · have hlen : i = is.length := by omega
      subst hlen
      refine .inl ⟨W.stop _ m g H e.toBack S sm (Nat.le_refl _), ?_⟩
      rw [List.drop_length] at hZ
      simp only [lcLoop] at hZ
      have q := Rz.ok_now hZ S (.ref D)
      rw [List.append_nil] at q
      exact q ⟨D, acc, rfl, hA, hR, nF, nA, nP⟩
end
end Ra


set_option Elab.async false
set_option linter.all false
set_option autoImplicit false
set_option maxRecDepth 100000
/-! comprehensions of two clauses -/
namespace Ra
open PySem PySem.Spec PyProof.Rows L2
section
variable {X : Cx} {K : PySem.W.Frag}
/-- what stands at D, with what was there before -/
structure AtD (K : PySem.W.Frag) (D : Addr) (m : Mem) (g : G) (H : Hp) (acc : List V) (ys : List PyData) : Prop where
  sim : SimM K m g H
  at_ : H D = some (.lst acc)
  rp : RpAll K g.F H acc ys
  nF : ¬ g.F D
  nA : D ∉ g.ad
  nP : ¬ g.pr D
/-- the loop of a clause that puts items behind ys0 -/
theorem lc_gen {t : Tg} {ps : List P} {elt : P} {own : List Nat} {J : It} {is : List PyData} {gs : List Nat} {env : Env} {m0 : Mem} {g0 : G} {H0 : Hp} {σ : L2.St} {D : Addr} {acc0 : List V} {ys0 : List PyData} {Post : List PyData → Mem → G → Hp → Prop} {End : Hp → Prop}
    (hs : Sg K env σ g0 H0) (A0 : AtD K D m0 g0 H0 acc0 ys0) (W : WalkOk K J is gs m0 g0 H0) (hr : same gs m0 m0 = true) (hsl : ∀ i ∈ slots t, i ∈ own) (hB : acc0.length + is.length ≤ sizeLine)
    (hz : Rz K (lcLoop t ps elt gs (wipe env own) is m0) g0 H0 Post)
    (hE : ∀ m g H acc ys, Ext g0 H0 g H → AtD K D m g H acc (ys0 ++ ys) → Post ys m g H → End H) :
    ∃ W : Nat → Nat → Hp → Prop, (∃ m, W 0 m H0) ∧ ∀ i m H, W i m H → (J.stop i H ∧ End H) ∨ (J.go i H ∧ ∃ Nx : Hp → Prop, (∀ H', Nx H' → ∃ m', m' < m ∧ W (i + 1) m' H') ∧
      ∀ x H', J.yld i H x H' → gT K t x (L2.wipe σ own) H' fun σ2 H2 => L2.wipe σ2 own = L2.wipe σ own ∧ tT K (tAll ps) σ2 H2 fun b H3 =>
        if b = true then tE K elt.v σ2 H3 fun y H4 => ∃ acc, H4 D = some (.lst acc) ∧ acc.length < sizeLine ∧ Nx (upd H4 D (.lst (acc ++ [y]))) else Nx H3) := by
  refine ⟨fun i n H => ∃ (m : Mem) (g : G) (acc : List V) (ys : List PyData), i + n = is.length ∧ Ext g0 H0 g H ∧ AtD K D m g H acc (ys0 ++ ys) ∧ same gs m0 m = true ∧ acc.length ≤ acc0.length + i ∧ Rz K (lcLoop t ps elt gs (wipe env own) (is.drop i) m) g H fun zs => Post (ys ++ zs),
    ⟨is.length, m0, g0, acc0, [], Nat.zero_add _, Ext.refl _ _, by rw [List.append_nil]; exact A0, hr, Nat.le_refl _, by rw [List.drop_zero]; exact hz⟩, fun i n H hW => ?_⟩
  obtain ⟨m, g, acc, ys, hn, e, ⟨S, hA, hR, nF, nA, nP⟩, sm, hl, hZ⟩ := hW
  by_cases hi : i < is.length
  · have hdi : is[i]? = some is[i] := List.getElem?_eq_getElem hi
    rw [List.drop_eq_getElem_cons hi] at hZ
    simp only [lcLoop] at hZ
    refine .inr ⟨W.go i m g H e.toBack S sm hi, fun H' => ∃ (m : Mem) (g : G) (acc : List V) (ys : List PyData), Ext g0 H0 g H' ∧ AtD K D m g H' acc (ys0 ++ ys) ∧ same gs m0 m = true ∧ acc.length ≤ acc0.length + (i + 1) ∧ Rz K (lcLoop t ps elt gs (wipe env own) (is.drop (i + 1)) m) g H' fun zs => Post (ys ++ zs), fun H' hN => ?_, fun x H' hy => ?_⟩
    · obtain ⟨m', g', acc', ys', a1, a2, a3, a4, a5⟩ := hN
      exact ⟨n - 1, by omega, m', g', acc', ys', by omega, a1, a2, a3, a4, a5⟩
    · obtain ⟨S1, e1, r1⟩ := W.yld i m g H x H' is[i] e.toBack S sm hdi hy
      have hs1 : Sg K (wipe env own) (L2.wipe σ own) g H' := ((hs.ext e).ext e1).wipe own
      have hZ1 := hZ.ext e1
      cases ha : asg t is[i] (wipe env own) with
      | none => rw [ha] at hZ1; exact hZ1.elim
      | some env' =>
        rw [ha] at hZ1
        refine ⟨_, g, _, env', hs1, r1, ha, fun σ2 hs2 w2 => ⟨by rw [w2 own hsl]; exact wipe_wipe σ own, ?_⟩⟩
        have hA1 : H' D = some (.lst acc) := ((W.yld i m (g.hold D) H x H' is[i] e.toBack (prot S hA nF nA) sm hdi hy).2.1.keep D (.inl rfl)).trans hA
        have hR1 := RpAll.ext e1 _ hR
        have S2 := prot S1 hA1 nF nA
        dsimp only at hZ1
        have hz00 := hZ1
        refine ⟨env', m, g.hold D, Sg.pr hs2, S2, ?_⟩
        cases ht : tAll ps env' m with
        | fail => rw [ht] at hZ1; exact hZ1.elim
        | exc a b => rw [ht] at hZ1; exact hZ1.elim
        | ok b m1 =>
          rw [ht, Res.bind_ok] at hZ1
          intro g2 H2 e2 s2
          obtain ⟨s2', e2', hD2, nF2, nA2⟩ := unprot s2 e2
          have hA2 : H2 D = some (.lst acc) := hD2.trans hA1
          have hz2 := hZ1.ext e2'
          cases b with
          | false =>
            simp only [Bool.false_eq_true, if_false] at hz2 ⊢
            split at hz2
            · rename_i hsm
              exact ⟨m1, _, acc, ys, (e.trans e1).trans e2', ⟨s2', hA2, RpAll.ext e2' _ hR1, nF2, nA2, nP⟩, same_trans sm hsm, by omega, hz2⟩
            · exact hz2.elim
          | true =>
            simp only [if_true] at hz2 ⊢
            refine ⟨env', m1, g2, (Sg.pr hs2).ext e2, s2, ?_⟩
            cases hv : elt.v env' m1 with
            | fail => rw [hv] at hz2; exact hz2.elim
            | exc a b => rw [hv] at hz2; exact hz2.elim
            | ok v m2 =>
              rw [hv, Res.bind_ok] at hz2
              intro g3 H3 e3 s3 y ry
              cases hf : frz v m2 with
              | fail => rw [hf] at hz2; exact hz2.elim
              | exc a b => rw [hf] at hz2; exact hz2.elim
              | ok d m3 =>
                rw [hf, Res.bind_ok] at hz2
                obtain ⟨g4, s4, e4, r4⟩ := s3.frz ry hf
                obtain ⟨s4', e4', hD4, nF4, nA4⟩ := unprot s4 ((e2.trans e3).trans e4)
                have hA4 : H3 D = some (.lst acc) := hD4.trans hA1
                split at hz2
                · rename_i hsm
                  have r4' : Rp K (g4.back g.pr).F H3 y d := r4
                  have hz : (acc ++ [y]).length ≤ sizeLine := by simp; omega
                  obtain ⟨s5, e5⟩ := up_own (ws := acc ++ [y]) s4' hA4 nF4 nA4 nP hz
                  refine ⟨acc, hA4, by omega, m3, g4.back g.pr, acc ++ [y], ys ++ [d], ((e.trans e1).trans e4').trans e5, ⟨s5, upd_same, ?_, nF4, nA4, nP⟩, same_trans sm hsm, by simp; omega, ?_⟩
                  · rw [← List.append_assoc]
                    exact RpAll.ext e5 _ ((RpAll.ext e4' _ hR1).append (.cons r4' .nil))
                  · rw [ht, Res.bind_ok, if_pos rfl, hv, Res.bind_ok, hf, Res.bind_ok, if_pos hsm] at hz00
                    refine ((Rz.bind hz00).ext (e4'.trans e5)).mono fun zs m6 g6 H6 e6 s6 z6 => ?_
                    have q := Rz.ok_now z6 s6
                    rw [List.append_assoc]
                    exact q
                · exact hz2.elim
  · have hlen : i = is.length := by omega
    subst hlen
    refine .inl ⟨W.stop _ m g H e.toBack S sm (Nat.le_refl _), hE m g H acc ys e ⟨S, hA, hR, nF, nA, nP⟩ ?_⟩
    rw [List.drop_length] at hZ
    simp only [lcLoop] at hZ
    have q := Rz.ok_now hZ S
    rw [List.append_nil] at q
    exact q
theorem lc2_ok {own own1 : List Nat} {t t1 : Tg} {k k1 : Sk} {src tests src1 tests1 : List P} {elt : P} (hsl : ∀ i ∈ slots t, i ∈ own) (hsl1 : ∀ i ∈ slots t1, i ∈ own1) {σ : L2.St} {H : Hp} {Q : VK} (h : tE K (cLc2 own own1 t k src tests t1 k1 src1 tests1 elt) σ H Q) :
    tLc2 (iS K (srcR k src)) (gT K t) (tT K (tAll tests)) (iS K (srcR k1 src1)) (gT K t1) (tT K (tAll tests1)) (tE K elt.v) own own1 σ H Q := by
  obtain ⟨env, m, g, hs, hm, hz⟩ := h
  refine ⟨env, m, g, hs, hm, (Rz.bind hz).mono fun q m0 g0 H0 e0 S0 z0 J W hr => ?_⟩
  replace hs := hs.ext e0
  obtain ⟨is, gs⟩ := q
  dsimp only at z0 W hr
  intro D hD
  refine ⟨fun i n H => ∃ (m : Mem) (g : G) (acc : List V) (ys : List PyData), i + n = is.length ∧ Ext g0 H0 g H ∧ AtD K D m g H acc ys ∧ same gs m0 m = true ∧ Rz K (lc2Loop t tests (lcIn own1 t1 k1 src1 tests1 elt) gs (wipe env own) ys.length (is.drop i) m) g H fun zs m' g' H' => ∀ x, RpV K g' H' x (.fr (ys ++ zs)) → Q x H',
    ⟨is.length, m0, g0, [], [], Nat.zero_add _, ext_new S0 hD, ⟨sim_new S0 hD (Nat.zero_le _), upd_same, .nil, not_F S0 hD, not_ad S0 hD, not_pr S0 hD⟩, hr, ?_⟩, fun i n H hW => ?_⟩
  · rw [List.drop_zero]
    exact ((Rz.bind z0).mono fun ys m2 g2 H2 e2 s2 z2 => Rz.ok_now z2 s2).ext (ext_new S0 hD)
  · obtain ⟨m, g, acc, ys, hn, e, ⟨S, hA, hR, nF, nA, nP⟩, sm, hZ⟩ := hW
    by_cases hi : i < is.length
    · have hdi : is[i]? = some is[i] := List.getElem?_eq_getElem hi
      rw [List.drop_eq_getElem_cons hi] at hZ
      simp only [lc2Loop] at hZ
      refine .inr ⟨W.go i m g H e.toBack S sm hi, fun H' => ∃ (m : Mem) (g : G) (acc : List V) (ys : List PyData), Ext g0 H0 g H' ∧ AtD K D m g H' acc ys ∧ same gs m0 m = true ∧ Rz K (lc2Loop t tests (lcIn own1 t1 k1 src1 tests1 elt) gs (wipe env own) ys.length (is.drop (i + 1)) m) g H' fun zs m' g' H' => ∀ x, RpV K g' H' x (.fr (ys ++ zs)) → Q x H', fun H' hN => ?_, fun x H' hy => ?_⟩
      · obtain ⟨m', g', acc', ys', a1, a2, a3, a4⟩ := hN
        exact ⟨n - 1, by omega, m', g', acc', ys', by omega, a1, a2, a3, a4⟩
      · obtain ⟨S1, e1, r1⟩ := W.yld i m g H x H' is[i] e.toBack S sm hdi hy
        have hs1 : Sg K (wipe env own) (L2.wipe σ own) g H' := ((hs.ext e).ext e1).wipe own
        have hZ1 := hZ.ext e1
        cases ha : asg t is[i] (wipe env own) with
        | none => rw [ha] at hZ1; exact hZ1.elim
        | some env' =>
          rw [ha] at hZ1
          refine ⟨_, g, _, env', hs1, r1, ha, fun σ2 hs2 w2 => ⟨by rw [w2 own hsl]; exact wipe_wipe σ own, ?_⟩⟩
          have hA1 : H' D = some (.lst acc) := ((W.yld i m (g.hold D) H x H' is[i] e.toBack (prot S hA nF nA) sm hdi hy).2.1.keep D (.inl rfl)).trans hA
          have hR1 := RpAll.ext e1 _ hR
          have S2 := prot S1 hA1 nF nA
          dsimp only at hZ1
          refine ⟨env', m, g.hold D, Sg.pr hs2, S2, ?_⟩
          cases ht : tAll tests env' m with
          | fail => rw [ht] at hZ1; exact hZ1.elim
          | exc a b => rw [ht] at hZ1; exact hZ1.elim
          | ok b m1 =>
            rw [ht, Res.bind_ok] at hZ1
            intro g2 H2 e2 s2
            obtain ⟨s2', e2', hD2, nF2, nA2⟩ := unprot s2 e2
            have hA2 : H2 D = some (.lst acc) := hD2.trans hA1
            have hz2 := hZ1.ext e2'
            cases b with
            | false =>
              simp only [Bool.false_eq_true, if_false] at hz2 ⊢
              split at hz2
              · rename_i hsm
                exact ⟨m1, _, acc, ys, (e.trans e1).trans e2', ⟨s2', hA2, RpAll.ext e2' _ hR1, nF2, nA2, nP⟩, same_trans sm hsm, hz2⟩
              · exact hz2.elim
            | true =>
              simp only [if_true] at hz2 ⊢
              unfold lcIn at hz2
              have hz3 := Rz.bind (Rz.bind hz2)
              have s2p := prot s2' hA2 nF2 nA2
              refine ⟨env', m1, (g2.back g.pr).hold D, Sg.pr ((Sg.pr hs2).ext e2), s2p, ?_⟩
              cases hsr : srcR k1 src1 env' m1 with
              | fail => rw [hsr] at hz3; exact hz3.elim
              | exc a b => rw [hsr] at hz3; exact hz3.elim
              | ok q m2 =>
                rw [hsr] at hz3
                intro g3 H3 e3 s3 J1 W1 hr1
                obtain ⟨s3', e3', hD3, nF3, nA3⟩ := unprot s3 e3
                have hA3 : H3 D = some (.lst acc) := hD3.trans hA2
                obtain ⟨is1, gs1⟩ := q
                have hz4 := hz3 _ _ e3' s3'
                dsimp only at hz4 W1 hr1
                split at hz4
                · rename_i hlim
                  have hlen := hR.length
                  have W1' : WalkOk K J1 is1 gs1 m2 (g3.back (g2.back g.pr).pr) H3 := ⟨W1.len, W1.go, W1.yld, W1.stop⟩
                  have hs3 : Sg K env' σ2 (g2.back g.pr) H2 := Sg.pr ((Sg.pr hs2).ext e2)
                  refine lc_gen (Post := fun zs m3 g4 H4 => Rz K (if same gs m m3 = true then (lc2Loop t tests (lcIn own1 t1 k1 src1 tests1 elt) gs (wipe env own) (ys.length + zs.length) (is.drop (i + 1)) m3).bind fun us m4 => .ok (zs ++ us) m4 else .fail) g4 H4 fun zs m' g' H' => ∀ x, RpV K g' H' x (.fr (ys ++ zs)) → Q x H')
                    (hs3.ext e3') ⟨s3', hA3, RpAll.ext (e2'.trans e3') _ hR1, nF3, nA3, nP⟩ W1' hr1 hsl1 (by rw [hlen, sizeLine_eq]; exact hlim) ?_ fun m5 g5 H5 acc5 zs5 e5 A5 p5 => ?_
                  · exact hz4
                  · split at p5
                    · rename_i hsm
                      refine ⟨m5, g5, acc5, ys ++ zs5, (((e.trans e1).trans e2').trans e3').trans e5, A5, same_trans sm hsm, ?_⟩
                      rw [List.length_append]
                      refine (Rz.bind p5).mono fun us m6 g6 H6 e6 s6 z6 => ?_
                      have q := Rz.ok_now z6 s6
                      rw [List.append_assoc]
                      exact q
                    · exact p5.elim
                · exact hz4.elim
    · have hlen : i = is.length := by omega
      subst hlen
      refine .inl ⟨W.stop _ m g H e.toBack S sm (Nat.le_refl _), ?_⟩
      rw [List.drop_length] at hZ
      simp only [lc2Loop] at hZ
      have q := Rz.ok_now hZ S (.ref D)
      rw [List.append_nil] at q
      exact q ⟨D, acc, rfl, hA, hR, nF, nA, nP⟩
end
end Ra


set_option Elab.async false
set_option linter.all false
set_option autoImplicit false
set_option maxRecDepth 100000
/-! statements by the evaluator -/
namespace Ra
open PySem PySem.Spec PyProof.Rows L2
section
variable {X : Cx} {tg e : Expr} {es : List Expr} {p : P} {ps : List P} {pos : Pos} {Z : Zx}
/-! comprehensions as expressions -/
def notSet : Expr → Bool
  | .Set _ _ _ => false
  | _ => true
theorem not_folded {e : Expr} (h : notSet e = true) (env : PySem.Env) (x : Value) : foldedSetIterable e env x = pure x := by
  cases e <;> first | rfl | (cases h; done)
theorem pts_nilR : PTs X [] (tT X.K (tAll [])) := ⟨fun pins s σ H Q I ⟨env, m, g, hs, hm, hz⟩ => pts_nil.run pins s σ H Q I (Rz.ok_now hz hm)⟩
theorem pts_oneR (h : PT X e (tT X.K p.t)) : PTs X [e] (tT X.K (tAll [p])) := ⟨fun pins s σ H Q I ⟨env, m, g, hs, hm, hz⟩ => (pts_one h).run pins s σ H Q I ⟨env, m, g, hs, hm, (Rz.bind hz).mono fun b m1 g1 H1 e1 s1 z1 => by
  cases b with
  | true => exact Rz.ok_now z1 s1
  | false => exact Rz.ok_now z1 s1⟩⟩
theorem lc_ok {K : PySem.W.Frag} {own : List Nat} {t : Tg} {k : Sk} {src tests : List P} {elt : P} (hsl : ∀ i ∈ slots t, i ∈ own) {σ : L2.St} {H : Hp} {Q : VK} (h : tE K (cLc own t k src tests elt) σ H Q) :
    tLc (iS K (srcR k src)) (gT K t) (tT K (tAll tests)) (tE K elt.v) own σ H Q := by
  obtain ⟨env, m, g, hs, hm, hz⟩ := h
  refine ⟨env, m, g, hs, hm, (Rz.bind hz).mono fun q m1 g1 H1 e1 s1 z1 J hJ hr => ?_⟩
  exact lc_loop (hs.ext e1) s1 hJ hr hsl z1
theorem pe_lcR {elt iter : Expr} {ifs : List Expr} {scope : Scope} {own : List (Str × Nat)} {t : Tg} {k : Sk} {src tests : List P} {pe : P} (hc : X.calm = true) (hN : X.N.Nodup) (hi : PI X tg iter (iS X.K (srcR k src))) (ok : BlkOk X.N X.env.scope scope own)
    (hg : ∀ (s : Shared) (H : Hp) (C : Addr) (cl : List (Str × Addr)) (fp : List Addr), PG (X.blk s H scope (compEnvC scope cl C X.env) fp) tg (gT X.K t))
    (ht : ∀ (s : Shared) (H : Hp) (C : Addr) (cl : List (Str × Addr)) (fp : List Addr), PTs (X.blk s H scope (compEnvC scope cl C X.env) fp) ifs (tT X.K (tAll tests)))
    (he : ∀ (s : Shared) (H : Hp) (C : Addr) (cl : List (Str × Addr)) (fp : List Addr), PE (X.blk s H scope (compEnvC scope cl C X.env) fp) elt (tE X.K pe.v)) (hs : notSet iter = true) (hsl : ∀ i ∈ slots t, i ∈ own.map (·.2)) :
    PE X (.ListComp elt [⟨tg, iter, ifs, 0⟩] scope pos) (tE X.K (cLc (own.map (·.2)) t k src tests pe)) :=
  PE.weak (pe_lc hc hN hi ok hg ht he (not_folded hs _)) fun _ _ _ h => lc_ok hsl h
theorem pe_lc2R {elt iter tg1 iter1 : Expr} {ifs ifs1 : List Expr} {scope : Scope} {own : List (Str × Nat)} {own1 : List Nat} {t t1 : Tg} {k k1 : Sk} {src tests src1 tests1 : List P} {pe : P} (hc : X.calm = true) (hN : X.N.Nodup) (hi : PI X tg iter (iS X.K (srcR k src))) (ok : BlkOk X.N X.env.scope scope own) (hv : ∀ i ∈ own1, i ∈ own.map (·.2))
    (hg : ∀ (s : Shared) (H : Hp) (C : Addr) (cl : List (Str × Addr)) (fp : List Addr), PG (X.blk s H scope (compEnvC scope cl C X.env) fp) tg (gT X.K t))
    (ht : ∀ (s : Shared) (H : Hp) (C : Addr) (cl : List (Str × Addr)) (fp : List Addr), PTs (X.blk s H scope (compEnvC scope cl C X.env) fp) ifs (tT X.K (tAll tests)))
    (hi1 : ∀ (s : Shared) (H : Hp) (C : Addr) (cl : List (Str × Addr)) (fp : List Addr), PI (X.blk s H scope (compEnvC scope cl C X.env) fp) tg1 iter1 (iS X.K (srcR k1 src1)))
    (hg1 : ∀ (s : Shared) (H : Hp) (C : Addr) (cl : List (Str × Addr)) (fp : List Addr), PG (X.blk s H scope (compEnvC scope cl C X.env) fp) tg1 (gT X.K t1))
    (ht1 : ∀ (s : Shared) (H : Hp) (C : Addr) (cl : List (Str × Addr)) (fp : List Addr), PTs (X.blk s H scope (compEnvC scope cl C X.env) fp) ifs1 (tT X.K (tAll tests1)))
    (he : ∀ (s : Shared) (H : Hp) (C : Addr) (cl : List (Str × Addr)) (fp : List Addr), PE (X.blk s H scope (compEnvC scope cl C X.env) fp) elt (tE X.K pe.v)) (hs : notSet iter = true) (hs1 : notSet iter1 = true) (hsl : ∀ i ∈ slots t, i ∈ own.map (·.2)) (hsl1 : ∀ i ∈ slots t1, i ∈ own1) :
    PE X (.ListComp elt [⟨tg, iter, ifs, 0⟩, ⟨tg1, iter1, ifs1, 0⟩] scope pos) (tE X.K (cLc2 (own.map (·.2)) own1 t k src tests t1 k1 src1 tests1 pe)) :=
  PE.weak (pe_lc2 hc hN hi ok hv hg ht hi1 hg1 ht1 he (not_folded hs _) fun env x => not_folded hs1 env x) fun _ _ _ h => lc2_ok hsl hsl1 h
/-! statements -/
def FlowQ (K : PySem.W.Frag) (D : Ends) : Flow → Mem → G → Hp → Prop
  | .next env, _, g, H => ∀ σ, Sg K env σ g H → D.nx σ H
  | .ret v, _, g, H => ∀ x, RpV K g H x v → D.rt x H
  | .brk env, _, g, H => ∀ σ, Sg K env σ g H → D.bk σ H
  | .cnt env, _, g, H => ∀ σ, Sg K env σ g H → D.ct σ H
def tS (K : PySem.W.Frag) (Z : Zx) (x : EX) : TS := fun D σ H => ∃ env m g, Sg K env σ g H ∧ SimM K m g H ∧ Rx K Z (x env m) g H (FlowQ K D)
theorem ps_badR (st : Stmt) : PS X st (tS X.K Z fun _ _ => .fail) := ⟨fun pins s σ H D I ⟨env, m, g, hs, hm, hz⟩ => hz.elim⟩
theorem pss_nilR : PSs X [] (tS X.K Z xNext) := PSs.weak pss_nil fun D σ H ⟨env, m, g, hs, hm, hz⟩ => Rx.ok_now hz hm σ hs
theorem pss_consR {st : Stmt} {rest : List Stmt} {x y : EX} (h1 : PS X st (tS X.K Z x)) (h2 : PSs X rest (tS X.K Z y)) : PSs X (st :: rest) (tS X.K Z (xSeq x y)) := by
  refine PSs.weak (pss_cons h1 h2) fun D σ H ⟨env, m, g, hs, hm, hz⟩ => ?_
  refine ⟨env, m, g, hs, hm, (Rx.bind hz).mono fun f m1 g1 H1 e1 s1 z1 => ?_⟩
  cases f with
  | next env' => exact fun σ' hs' => ⟨env', m1, g1, hs', s1, z1⟩
  | ret v => exact Rx.ok_now (Z := Z) z1 s1
  | brk env' => exact Rx.ok_now (Z := Z) z1 s1
  | cnt env' => exact Rx.ok_now (Z := Z) z1 s1
theorem ps_passR : PS X (.Pass pos) (tS X.K Z xNext) := PS.weak ps_pass fun D σ H ⟨env, m, g, hs, hm, hz⟩ => Rx.ok_now hz hm σ hs
theorem ps_brkR : PS X (.Break pos) (tS X.K Z fun env m => .ok (.brk env) m) := PS.weak ps_break fun D σ H ⟨env, m, g, hs, hm, hz⟩ => Rx.ok_now hz hm σ hs
theorem ps_cntR : PS X (.Continue pos) (tS X.K Z fun env m => .ok (.cnt env) m) := PS.weak ps_continue fun D σ H ⟨env, m, g, hs, hm, hz⟩ => Rx.ok_now hz hm σ hs
theorem ps_retR (h : PE X e (tE X.K p.v)) : PS X (.Return (some e) pos) (tS X.K Z (xRet p)) := by
  refine PS.weak (ps_ret h) fun D σ H ⟨env, m, g, hs, hm, hz⟩ => ?_
  exact ⟨env, m, g, hs, hm, (Rx.bindX hz).mono fun v m1 g1 H1 e1 s1 z1 => Rx.ok_now z1 s1⟩
theorem ps_retNR : PS X (.Return none pos) (tS X.K Z fun _ m => .ok (.ret (.d .none)) m) := PS.weak ps_retN fun D σ H ⟨env, m, g, hs, hm, hz⟩ => Rx.ok_now hz hm .non .non
theorem ps_exprR (h : PE X e (tE X.K p.v)) (hs : swapsWith e none pos.line X.env = pure false) : PS X (.Expr e pos) (tS X.K Z fun env m => (p.v env m).noX.bind fun _ m1 => .ok (.next env) m1) := by
  refine PS.weak (ps_expr h hs) fun D σ H ⟨env, m, g, hs, hm, hz⟩ => ?_
  exact ⟨env, m, g, hs, hm, (Rx.bindX hz).mono fun v m1 g1 H1 e1 s1 z1 x rx => Rx.ok_now z1 s1 σ (hs.ext e1)⟩
theorem ps_ifR {c : Expr} {a b : List Stmt} {pc : P} {xa xb : EX} (hc : PT X c (tT X.K pc.t)) (ha : PSs X a (tS X.K Z xa)) (hb : PSs X b (tS X.K Z xb)) : PS X (.If c a b pos) (tS X.K Z (xIf pc xa xb)) := by
  refine PS.weak (ps_if hc ha hb) fun D σ H ⟨env, m, g, hs, hm, hz⟩ => ?_
  refine ⟨env, m, g, hs, hm, (Rx.bindX hz).mono fun t m1 g1 H1 e1 s1 z1 => ?_⟩
  cases t with
  | true => exact ⟨env, m1, g1, hs.ext e1, s1, z1⟩
  | false => exact ⟨env, m1, g1, hs.ext e1, s1, z1⟩
/-- the value that a name gets -/
theorem stored_ok {K : PySem.W.Frag} {c : Bool} {v v' : Val} {m m' : Mem} {g : G} {H : Hp} {x : V} (S : SimM K m g H) (h : RpV K g H x v) (e : stored c v m = .ok v' m') : ∃ g', SimM K m' g' H ∧ Ext g H g' H ∧ RpV K g' H x v' ∧ ∀ xs, v' ≠ .fr xs := by
  unfold stored at e
  split at e
  · exact S.mkCell h e
  · simp only [Res.ok.injEq] at e
    obtain ⟨rfl, rfl⟩ := e
    obtain ⟨g', s', e', r'⟩ := S.hold h
    exact ⟨g', s', e', r', nf_ne v⟩
theorem set_ok {K : PySem.W.Frag} {i : Nat} {c : Bool} {D : Ends} {σ : L2.St} {H : Hp} (h : tS K Z (xSet i c p) D σ H) : tE K p.v σ H fun x H1 => gName i x σ H1 D.nx := by
  obtain ⟨env, m, g, hs, hm, hz⟩ := h
  refine ⟨env, m, g, hs, hm, (Rx.bindX hz).mono fun v m1 g1 H1 e1 s1 z1 x rx => ?_⟩
  cases hst : stored c v m1 with
  | fail => rw [hst] at z1; exact z1.elim
  | exc a b => exact absurd hst stored_nx
  | ok v' m2 =>
    rw [hst, Res.bind_ok] at z1
    obtain ⟨g2, s2, e2, r2, nf2⟩ := stored_ok s1 rx hst
    unfold setIn at z1
    split at z1
    · rename_i hi
      exact Rx.ok_now (z1.ext e2) s2 _ (((hs.ext e1).ext e2).set r2 nf2 hi)
    · exact z1.elim
theorem ps_setR {i : Nat} {c : Bool} {x : Str} {pos' : Pos} (hN : X.N.Nodup) (hi : X.N[i]? = some x) (hx : Loc X.env.scope x) (hf : X.fn x = true ∨ X.env.scope.names.lookup x = some .local) (he : PE X e (tE X.K p.v)) (hs : swapsWith e (some (.Name x pos')) pos.line X.env = pure false) :
    PS X (.Assign [.Name x pos'] e pos) (tS X.K Z (xSet i c p)) := PS.weak (ps_set hN hi hx he hs hf) fun _ _ _ h => set_ok h
theorem ps_setLcR {i : Nat} {c : Bool} {y : Str} {py spos : Pos} {elt iter : Expr} {ifs : List Expr} {scope : Scope} {own : List (Str × Nat)} {t : Tg} {k : Sk} {src tests : List P} {pe : P} (hc : X.calm = true) (hN : X.N.Nodup) (hy : X.N[i]? = some y) (hyl : X.env.scope.names.lookup y = some .local)
    (hsw : swapsWith (.ListComp elt [⟨tg, iter, ifs, 0⟩] scope pos) (some (.Name y py)) spos.line X.env = pure true) (hi : PI X tg iter (iS X.K (srcR k src))) (ok : BlkOk X.N X.env.scope scope own)
    (hg : ∀ (s : Shared) (H : Hp) (C : Addr) (cl : List (Str × Addr)) (fp : List Addr), PG (X.blk s H scope (compEnvC scope cl C X.env) fp) tg (gT X.K t))
    (ht : ∀ (s : Shared) (H : Hp) (C : Addr) (cl : List (Str × Addr)) (fp : List Addr), PTs (X.blk s H scope (compEnvC scope cl C X.env) fp) ifs (tT X.K (tAll tests)))
    (he : ∀ (s : Shared) (H : Hp) (C : Addr) (cl : List (Str × Addr)) (fp : List Addr), PE (X.blk s H scope (compEnvC scope cl C X.env) fp) elt (tE X.K pe.v)) (hs : notSet iter = true) (hsl : ∀ i ∈ slots t, i ∈ own.map (·.2)) :
    PS X (.Assign [.Name y py] (.ListComp elt [⟨tg, iter, ifs, 0⟩] scope pos) spos) (tS X.K Z (xSet i c (ofV (cLc (own.map (·.2)) t k src tests pe)))) :=
  PS.weak (ps_setLc hc hN hy hyl hsw hi ok hg ht he (not_folded hs _)) fun _ _ _ h => lc_ok hsl (set_ok h)
theorem ps_setTR {us : List Tg} {k : Nat} {q : Pos} {ts : List Expr} (hg : PG X (.Tuple ts k q) (gT X.K (.tp us))) (he : PE X e (tE X.K p.v)) (hw : swappedStores [.Tuple ts k q] e X.env = pure none) (hs : swapsWithSole [.Tuple ts k q] e pos.line X.env = pure false) :
    PS X (.Assign [.Tuple ts k q] e pos) (tS X.K Z (xSetT (.tp us) p)) := by
  refine PS.weak (ps_asg he hg hs hw rfl) fun D σ H ⟨env, m, g, hs, hm, hz⟩ => ?_
  refine ⟨env, m, g, hs, hm, (Rx.bindX hz).mono fun v m1 g1 H1 e1 s1 z1 x rx => ?_⟩
  obtain ⟨g2, s2, e2, r2⟩ := s1.hold rx
  cases hv : v.nf with
  | fr xs => exact absurd hv (nf_ne v xs)
  | mr j => rw [hv] at z1; exact z1.elim
  | dv j => rw [hv] at z1; exact z1.elim
  | d y =>
    rw [hv] at z1 r2
    dsimp only at z1
    cases ha : asg (.tp us) y env with
    | none => rw [ha] at z1; exact z1.elim
    | some env' =>
      rw [ha] at z1
      exact ⟨env, g2, y, env', (hs.ext e1).ext e2, r2, ha, fun σ' hs' _ => Rx.ok_now (z1.ext e2) s2 σ' hs'⟩
/-! a, b = x, y -/
def tPv (K : PySem.W.Frag) (is : List (Nat × Bool)) (ps : List P) : TA := fun σ H Q => ∃ env m g, Sg K env σ g H ∧ SimM K m g H ∧ Rz K (parV is ps env m) g H fun vs _ g' H' => ∀ xs, RpVs K g' H' xs vs → Q xs H'
theorem pa_par_nil : PA X [] (tPv X.K [] []) := PA.weak pa_nil fun σ H Q ⟨env, m, g, hs, hm, hz⟩ => Rz.ok_now hz hm [] .nil
theorem pa_par_cons {i : Nat} {c : Bool} {is : List (Nat × Bool)} (ha : PE X e (tE X.K p.v)) (hr : PA X es (tPv X.K is ps)) (ns : notStar e = true) : PA X (e :: es) (tPv X.K ((i, c) :: is) (p :: ps)) := by
  refine PA.weak (pa_cons ha hr (star1 ns _ _)) fun σ H Q ⟨env, m, g, hs, hm, hz⟩ => ?_
  refine ⟨env, m, g, hs, hm, (Rz.bind hz).mono fun v m1 g1 H1 e1 s1 z1 x rx => ?_⟩
  cases hst : stored c v m1 with
  | fail => rw [hst] at z1; exact z1.elim
  | exc a b => rw [hst] at z1; exact z1.elim
  | ok v' m2 =>
    rw [hst, Res.bind_ok] at z1
    obtain ⟨g2, s2, e2, r2, nf2⟩ := stored_ok s1 rx hst
    refine ⟨env, m2, g2, (hs.ext e1).ext e2, s2, (Rz.bind (z1.ext e2)).mono fun vs m3 g3 H3 e3 s3 z3 xs rxs => ?_⟩
    exact Rz.ok_now z3 s3 (x :: xs) (.cons (r2.ext e3 nf2) nf2 rxs)
def setS : List (Nat × Bool) → List V → L2.St → L2.St
  | (i, _) :: is, x :: xs, σ => setS is xs (σ.set i (some x))
  | _, _, σ => σ
theorem setAll_ok {K : PySem.W.Frag} {m : Mem} {g : G} {H : Hp} {Q : Flow → Mem → G → Hp → Prop} : ∀ {is : List (Nat × Bool)} {vs : List Val} {xs : List V} {env : Env} {σ : L2.St}, Sg K env σ g H → RpVs K g H xs vs → Rx K Z (setAll is vs env m) g H Q →
    ∃ env', Sg K env' (setS is xs σ) g H ∧ Rx K Z (.ok (.next env') m) g H Q ∧ xs.length = is.length
  | [], _, _, env, σ, hs, .nil, hz => ⟨env, hs, hz, rfl⟩
  | [], _, _, env, σ, hs, .cons _ _ _, hz => hz.elim
  | _ :: _, _, _, env, σ, hs, .nil, hz => hz.elim
  | (i, c) :: is, _, _, env, σ, hs, .cons (v := v) (x := x) r hf t, hz => by
    unfold setAll at hz
    split at hz
    · rename_i hi
      obtain ⟨env', h1, h2, h3⟩ := setAll_ok (hs.set r hf hi) t hz
      exact ⟨env', h1, h2, by simp [h3]⟩
    · exact hz.elim
theorem par_ok {K : PySem.W.Frag} {is : List (Nat × Bool)} {D : Ends} {σ : L2.St} {H : Hp} (h : tS K Z (xPar is ps) D σ H) : tPv K is ps σ H fun xs H1 => xs.length = is.length ∧ D.nx (setS is xs σ) H1 := by
  obtain ⟨env, m, g, hs, hm, hz⟩ := h
  refine ⟨env, m, g, hs, hm, (Rx.bindX hz).mono fun vs m1 g1 H1 e1 s1 z1 xs rxs => ?_⟩
  obtain ⟨env', h1, h2, h3⟩ := setAll_ok (hs.ext e1) rxs z1
  exact ⟨h3, Rx.ok_now h2 s1 _ h1⟩
theorem ps_par2R {i j : Nat} {c c' : Bool} {x y : Str} {a b : Expr} {px py pt : Pos} {kt k2 : Nat} {pt2 : Pos} (hc : X.calm = true) (hN : X.N.Nodup) (hi : X.N[i]? = some x) (hj : X.N[j]? = some y) (hij : i ≠ j)
    (hx : X.env.scope.names.lookup x = some .local) (hy : X.env.scope.names.lookup y = some .local) (ha : PA X [a, b] (tPv X.K [(i, c), (j, c')] ps))
    (hw : swappedStores [.Tuple [.Name x px, .Name y py] kt pt] (.Tuple [a, b] k2 pt2) X.env = pure (some [x, y])) :
    PS X (.Assign [.Tuple [.Name x px, .Name y py] kt pt] (.Tuple [a, b] k2 pt2) pos) (tS X.K Z (xPar [(i, c), (j, c')] ps)) := by
  refine PS.weak (ps_par hc hN hi hj hij hx hy ha hw rfl) fun D σ H h => ?_
  obtain ⟨env, m, g, hs, hm, hz⟩ := par_ok h
  refine ⟨env, m, g, hs, hm, hz.mono fun vs m1 g1 H1 e1 s1 z1 xs rxs => ?_⟩
  obtain ⟨h1, h2⟩ := z1 xs rxs
  match xs, h1 with
  | [u, w], _ => exact ⟨u, w, rfl, h2⟩
/-- names, one after another -/
def gSets : List (Nat × Bool) → TGs
  | [] => gNil
  | (i, _) :: is => gCons (gName i) (gSets is)
theorem gSets_ok {H : Hp} {Q : L2.St → Hp → Prop} : ∀ {is : List (Nat × Bool)} {xs : List V} {σ : L2.St}, xs.length = is.length → Q (setS is xs σ) H → gSets is xs σ H Q
  | [], [], σ, _, q => ⟨rfl, q⟩
  | [], _ :: _, σ, h, _ => by simp at h
  | _ :: _, [], σ, h, _ => by simp at h
  | (i, c) :: is, x :: xs, σ, h, q => ⟨x, xs, rfl, gSets_ok (by simpa using h) q⟩
theorem ps_parNR {is : List (Nat × Bool)} {ts vs : List Expr} {k k2 : Nat} {q q2 : Pos} (hc : X.calm = true) (hg : PGs X ts (gSets is)) (ns : ts.all notStar = true) (hl : ts.length = is.length) (hv : vs.length ≤ 1000) (ha : PA X vs (tPv X.K is ps)) (hil : is.length ≤ 1000)
    (hw : swappedStores [.Tuple ts k q] (.Tuple vs k2 q2) X.env = pure none) : PS X (.Assign [.Tuple ts k q] (.Tuple vs k2 q2) pos) (tS X.K Z (xPar is ps)) := by
  obtain ⟨a, b⟩ := assign_len ts X.env ns
  refine PS.weak (ps_asg (pe_tup ha) (pg_tup (n := ts.length) hc hg a b) rfl hw rfl) fun D σ H h => ?_
  obtain ⟨env, m, g, hs, hm, hz⟩ := h
  refine ⟨env, m, g, hs, hm, (Rx.bindX hz).mono fun ws m1 g1 H1 e1 s1 z1 xs rxs => ?_⟩
  obtain ⟨env', h1, h2, h3⟩ := setAll_ok (hs.ext e1) rxs z1
  have hlen : xs.length ≤ sizeLine := by rw [h3, sizeLine_eq]; omega
  refine ⟨hlen, fun pp hp => ⟨pp, xs, rfl, .inl (.inl upd_same), by rw [h3, hl], gSets_ok h3 ?_⟩⟩
  have e2 := ext_new (o := .tup xs) s1 hp
  exact (h2.ext e2) _ _ (Ext.refl _ _) (sim_new s1 hp hlen) _ (h1.ext e2)
/-! cells -/
theorem cell_at {K : PySem.W.Frag} {env : Env} {σ : L2.St} {m : Mem} {g : G} {H : Hp} {i k : Nat} (hs : Sg K env σ g H) (S : SimM K m g H) (h : getV env i = some (.mr k)) : ∃ a, σ[i]? = some (some (.ref a)) ∧ g.ad[k]? = some a ∧ ∃ c vs, m[k]? = some c ∧ H a = some (.lst vs) ∧ RpAll K g.F H vs c.xs := by
  obtain ⟨x, h1, ⟨a, rfl, h2⟩, _⟩ := hs.at_ i _ h
  have hk : k < m.length := by
    rw [← S.len]
    exact (List.getElem?_eq_some_iff.mp h2).1
  obtain ⟨vs, h3, h4, _⟩ := S.cell k _ a (List.getElem?_eq_getElem hk) h2
  exact ⟨a, h1, h2, _, vs, List.getElem?_eq_getElem hk, h3, h4⟩
theorem upCell_ok {K : PySem.W.Frag} {env : Env} {σ : L2.St} {m : Mem} {g : G} {H : Hp} {i : Nat} {f : List PyData → Option (List PyData)} {Q : Flow → Mem → G → Hp → Prop} (hs : Sg K env σ g H) (S : SimM K m g H) (hz : Rx K Z (upCell env i f m) g H Q) :
    ∃ k a c vs ys, getV env i = some (.mr k) ∧ σ[i]? = some (some (.ref a)) ∧ g.ad[k]? = some a ∧ m[k]? = some c ∧ c.fz = false ∧ H a = some (.lst vs) ∧ RpAll K g.F H vs c.xs ∧ f c.xs = some ys ∧ Rx K Z (.ok (.next env) (m.set k ⟨false, ys⟩)) g H Q := by
  unfold upCell at hz
  cases h1 : getV env i with
  | none => rw [h1] at hz; exact hz.elim
  | some v =>
    rw [h1] at hz
    cases v with
    | d _ => exact hz.elim
    | fr _ => exact hz.elim
    | dv _ => exact hz.elim
    | mr k =>
      obtain ⟨a, h2, h3, c, vs, h4, h5, h6⟩ := cell_at hs S h1
      simp only [h4] at hz
      split at hz
      · rename_i hf
        cases h7 : f c.xs with
        | none => rw [h7] at hz; exact hz.elim
        | some ys =>
          rw [h7] at hz
          exact ⟨k, a, c, vs, ys, rfl, h2, h3, h4, hf, h5, h6, h7, hz⟩
      · exact hz.elim
theorem getV_some {i : Nat} {env : Env} {v : Val} (h : getV env i = some v) : i < env.length := by
  unfold getV at h
  cases h1 : env[i]? with
  | none => rw [h1] at h; cases h
  | some w => exact (List.getElem?_eq_some_iff.mp h1).1
theorem few_ok {cpos : Pos} (ns : notStar e = true) (env : PySem.Env) : ((backTo cpos (starEach [e] env)).all (fun x => !x.1) && (backToKw cpos (keywordEach [] env)).all (fun x => x.1.isSome) && decide ([e].length + ([] : List Keyword).length + (if ([] : List Keyword).isEmpty then 0 else 1) < 30)) = true := by
  rw [star1 ns]; rfl
theorem onCell_ok {K : PySem.W.Frag} {env : Env} {i : Nat} {r : Res Flow} {g : G} {H : Hp} {Q : Flow → Mem → G → Hp → Prop} (h : Rx K Z (onCell env i r) g H Q) : ∃ k, getV env i = some (.mr k) ∧ Rx K Z r g H Q := by
  unfold onCell at h
  cases h1 : getV env i with
  | none => rw [h1] at h; exact h.elim
  | some v =>
    rw [h1] at h
    cases v with
    | d _ => exact h.elim
    | fr _ => exact h.elim
    | dv _ => exact h.elim
    | mr k => exact ⟨k, rfl, h⟩
theorem ps_appR {i : Nat} {x : Str} {q apos cpos : Pos} (hN : X.N[i]? = some x) (hv : Vis X.env.scope x) (hd : (x == ("__debug__" : Str)) = false) (hcd : (x == ("__classdict__" : Str)) = false) (ha : PE X e (tE X.K p.v)) (ns : notStar e = true)
    (hl : (apos.endLine == cpos.line) = true) : PS X (.Expr (.Call (.Attribute (.Name x q) "append" apos) [e] [] cpos) pos) (tS X.K Z (xApp i p)) := by
  refine PS.weak (ps_expr (pe_bm PySem.F.plainAttrs_list PySem.F.slot_list_append PySem.F.type_list_append mt_append (pe_var hN hv hd hcd) (pa_cons ha pa_nil (star1 ns _ _)) rfl (few_ok ns _) hl (star1 ns _ _) rfl) rfl) fun D σ H ⟨env, m, g, hs, hm, hz⟩ => ?_
  obtain ⟨k, hk, hz⟩ := onCell_ok hz
  obtain ⟨a, h1, h2, c, vs, h3, h4, h5⟩ := cell_at hs hm hk
  refine ⟨.ref a, h1, .inl ⟨rfl, vs, .inl (.inl h4)⟩, env, m, g, hs, hm, (Rx.bindX hz).mono fun v m1 g1 H1 e1 s1 z1 y ry => ?_⟩
  cases hf : frz v m1 with
  | fail => rw [hf] at z1; exact z1.elim
  | exc a b => exact absurd hf frz_nx
  | ok d m2 =>
    rw [hf, Res.bind_ok] at z1
    obtain ⟨g2, s2, e2, r2⟩ := s1.frz ry hf
    have hs2 := (hs.ext e1).ext e2
    obtain ⟨k', a', c', vs', ys, k1, k2, k3, k4, k5, k6, k7, k8, k9⟩ := upCell_ok hs2 s2 (z1.ext e2)
    rw [h1] at k2
    cases k2
    split at k8
    · rename_i hlt
      cases k8
      have hlen : vs'.length < sizeLine := by rw [k7.length, ← lim_eq]; exact hlt
      obtain ⟨s3, e3⟩ := up_cell (ws := vs' ++ [y]) (ys := c'.xs ++ [d]) s2 k4 k3 k5 (k7.append (.cons r2 .nil)) (by simp; omega)
      exact ⟨a, vs', y, rfl, rfl, k6, hlen, k9 _ _ e3 s3 σ (hs2.ext e3)⟩
    · cases k8
theorem ps_extR {i : Nat} {x : Str} {q apos cpos : Pos} (hN : X.N[i]? = some x) (hv : Vis X.env.scope x) (hd : (x == ("__debug__" : Str)) = false) (hcd : (x == ("__classdict__" : Str)) = false) (ha : PE X e (tE X.K p.v)) (ns : notStar e = true)
    (hl : (apos.endLine == cpos.line) = true) (hnf : True) : PS X (.Expr (.Call (.Attribute (.Name x q) "extend" apos) [e] [] cpos) pos) (tS X.K Z fun _ _ => .fail) := ps_badR _
theorem ps_putR {i : Nat} {x : Str} {q tpos : Pos} {j : Expr} {pj : P} (hN : X.N[i]? = some x) (hv : Vis X.env.scope x) (hd : (x == ("__debug__" : Str)) = false) (hcd : (x == ("__classdict__" : Str)) = false) (ha : PE X e (tE X.K p.v)) (hj : PE X j (tE X.K pj.v)) (hsl : notSlice j = true)
    (hsw : swapsWithSole [.Subscript (.Name x q) j tpos] e pos.line X.env = pure false) (hw : swappedStores [.Subscript (.Name x q) j tpos] e X.env = pure none) :
    PS X (.Assign [.Subscript (.Name x q) j tpos] e pos) (tS X.K Z (xPut i pj p)) := by
  refine PS.weak (ps_asg ha (pg_sub (pe_var hN hv hd hcd) hj set_list (by intro v; cases j <;> first | rfl | (cases hsl; done))) hsw hw rfl) fun D σ H ⟨env, m, g, hs, hm, hz⟩ => ?_
  refine ⟨env, m, g, hs, hm, (Rx.bindX hz).mono fun v m1 g1 H1 e1 s1 z1 y ry => ?_⟩
  cases hf : frz v m1 with
  | fail => rw [hf] at z1; exact z1.elim
  | exc a b => exact absurd hf frz_nx
  | ok d m2 =>
    rw [hf, Res.bind_ok] at z1
    obtain ⟨g2, s2, e2, r2⟩ := s1.frz ry hf
    have hs2 := (hs.ext e1).ext e2
    obtain ⟨k, hk, z2⟩ := onCell_ok (z1.ext e2)
    obtain ⟨a, h1, h2, c, vs, h3, h4, h5⟩ := cell_at hs2 s2 hk
    refine ⟨.ref a, h1, env, m2, g2, hs2, s2, (Rx.bindX z2).mono fun vj m3 g3 H3 e3 s3 z3 w rw_ => ?_⟩
    obtain ⟨g4, s4, e4, r4⟩ := s3.hold rw_
    obtain ⟨dj, hdj, z4⟩ := Rx.rdBind (z3.ext e4)
    have rj := s4.read (nf_ne vj) r4 hdj
    have hs4 := (hs2.ext e3).ext e4
    obtain ⟨k', a', c', vs', ys, k1, k2, k3, k4, k5, k6, k7, k8, k9⟩ := upCell_ok hs4 s4 z4
    rw [h1] at k2
    cases k2
    unfold putD at k8
    split at k8
    · rename_i n
      obtain ⟨n', hn, e⟩ := Option.map_eq_some_iff.mp k8
      subst e
      have hz : (vs'.set n' y).length ≤ sizeLine := by rw [List.length_set]; exact s4.sz a vs' (.inl k6)
      obtain ⟨s5, e5⟩ := up_cell (ws := vs'.set n' y) (ys := c'.xs.set n' d) s4 k4 k3 k5 (k7.set n' (Rp.ext (e3.trans e4) _ r2)) hz
      exact ⟨a, vs', n, n', rfl, rj.int, k6, by rw [k7.length]; exact hn, k9 _ _ e5 s5 σ (hs4.ext e5)⟩
    · cases k8
theorem pe_popR {i : Nat} {x : Str} {q apos cpos : Pos} (hN : X.N[i]? = some x) (hv : Vis X.env.scope x) (hd : (x == ("__debug__" : Str)) = false) (hcd : (x == ("__classdict__" : Str)) = false) (ha : PE X e (tE X.K p.v)) (ns : notStar e = true)
    (hl : (apos.endLine == cpos.line) = true) : PE X (.Call (.Attribute (.Name x q) "pop" apos) [e] [] cpos) (tE X.K (cPop i p)) := by
  refine PE.weak (pe_bm PySem.F.plainAttrs_list PySem.F.slot_list_pop PySem.F.type_list_pop mt_popAt (pe_var hN hv hd hcd) (pa_cons ha pa_nil (star1 ns _ _)) rfl (few_ok ns _) hl (star1 ns _ _) rfl) fun σ H Q ⟨env, m, g, hs, hm, hz⟩ => ?_
  unfold cPop at hz
  cases hk : getV env i with
  | none => rw [hk] at hz; exact hz.elim
  | some vv =>
    rw [hk] at hz
    cases vv with
    | d _ => exact hz.elim
    | fr _ => exact hz.elim
    | dv _ => exact hz.elim
    | mr k =>
      obtain ⟨a, h1, h2, c, vs, h3, h4, h5⟩ := cell_at hs hm hk
      refine ⟨.ref a, h1, .inl ⟨rfl, vs, .inl (.inl h4)⟩, env, m, g, hs, hm, (Rz.bind hz).mono fun v m1 g1 H1 e1 s1 z1 y ry => ?_⟩
      obtain ⟨g2, s2, e2, r2⟩ := s1.hold ry
      obtain ⟨dj, hdj, z2⟩ := Rz.rdBind (z1.ext e2)
      have rj := s2.read (nf_ne v) r2 hdj
      have h2' : g2.ad[k]? = some a := e2.at (e1.at h2)
      cases dj with
      | int j =>
        have hkl : k < m1.length := by
          rw [← s2.len]
          exact (List.getElem?_eq_some_iff.mp h2').1
        have hm1 : m1[k]? = some m1[k] := List.getElem?_eq_getElem hkl
        generalize m1[k] = cc at hm1
        obtain ⟨ws, k1, k2, k3, k4⟩ := s2.cell k cc a hm1 h2'
        simp only [hm1] at z2
        split at z2
        · rename_i hc
          obtain ⟨c1, c2, c3⟩ := hc
          cases hg : cc.xs[j.toNat]? with
          | none => rw [hg] at z2; exact z2.elim
          | some d =>
            rw [hg] at z2
            obtain ⟨yy, hy, ry'⟩ := k2.get hg
            have hwl := s2.sz a ws (.inl k1)
            have hlen := k2.length
            obtain ⟨s3, e3⟩ := up_cell (ws := ws.eraseIdx j.toNat) (ys := cc.xs.eraseIdx j.toNat) s2 hm1 h2' c1 (k2.erase _) (Nat.le_trans (List.length_eraseIdx_le _ _) hwl)
            have hj : seqIndex? j ws.length = some j.toNat := (ixN_seq (show ixN ws.length j = some j.toNat by
              unfold ixN
              rw [if_pos c2, if_pos (by rw [hlen]; exact c3)])).1
            have hb : ws.length ≤ 16777216 := by rw [← sizeLine_eq]; exact hwl
            have hj2 : j < ws.length := by rw [hlen]; exact c3
            exact ⟨a, ws, j, j.toNat, yy, rfl, by rw [rj.int], k1, by omega, by omega, hj, hy, z2 _ _ e3 s3 yy (Rp.ext e3 _ ry')⟩
        · exact z2.elim
      | none => exact z2.elim
      | bool _ => exact z2.elim
      | str _ => exact z2.elim
      | list _ => exact z2.elim
      | tuple _ => exact z2.elim
      | dict _ => exact z2.elim
end
end Ra


set_option Elab.async false
set_option linter.all false
set_option autoImplicit false
set_option maxRecDepth 100000
/-! loops, calls, defs -/
namespace Ra
open PySem PySem.Spec PyProof.Rows L2
section
variable {X : Cx} {tg e : Expr} {es : List Expr} {p : P} {ps : List P} {pos : Pos} {Z : Zx}
theorem for_loop {K : PySem.W.Frag} {t : Tg} {body : EX} {J : It} {is : List PyData} {gs : List Nat} {env : Env} {m0 : Mem} {g0 : G} {H0 : Hp} {σ : L2.St} {D : Ends} (hs : Sg K env σ g0 H0) (S0 : SimM K m0 g0 H0)
    (W : WalkOk K J is gs m0 g0 H0) (hr : same gs m0 m0 = true) (hz : Rx K Z (forLoop t body gs is env m0) g0 H0 (FlowQ K D)) :
    ∃ W : Nat → Nat → L2.St → Hp → Prop, (∃ m, W 0 m σ H0) ∧ ∀ i m σ H, W i m σ H → (J.stop i H ∧ D.nx σ H) ∨ (J.go i H ∧ ∃ N : L2.St → Hp → Prop, (∀ σ' H', N σ' H' → ∃ m', m' < m ∧ W (i + 1) m' σ' H') ∧
      ∀ x H', J.yld i H x H' → gT K t x σ H' fun σ2 H2 => tS K Z body { D with nx := N, ct := N, bk := D.nx } σ2 H2) := by
  refine ⟨fun i n σ H => ∃ (env : Env) (m : Mem) (g : G), i + n = is.length ∧ Ext g0 H0 g H ∧ SimM K m g H ∧ same gs m0 m = true ∧ Sg K env σ g H ∧ Rx K Z (forLoop t body gs (is.drop i) env m) g H (FlowQ K D),
    ⟨is.length, env, m0, g0, by omega, Ext.refl _ _, S0, hr, hs, by rw [List.drop_zero]; exact hz⟩, fun i n σ H hW => ?_⟩
  obtain ⟨env, m, g, hn, e, S, sm, hs, hZ⟩ := hW
  by_cases hi : i < is.length
  · have hdi : is[i]? = some is[i] := List.getElem?_eq_getElem hi
    rw [List.drop_eq_getElem_cons hi] at hZ
    simp only [forLoop] at hZ
    refine .inr ⟨W.go i m g H e.toBack S sm hi, fun σ' H' => ∃ (env : Env) (m : Mem) (g : G), Ext g0 H0 g H' ∧ SimM K m g H' ∧ same gs m0 m = true ∧ Sg K env σ' g H' ∧ Rx K Z (forLoop t body gs (is.drop (i + 1)) env m) g H' (FlowQ K D), fun σ' H' hN => ?_, fun x H' hy => ?_⟩
    · obtain ⟨env', m', g', a1, a2, a3, a4, a5⟩ := hN
      exact ⟨n - 1, by omega, env', m', g', by omega, a1, a2, a3, a4, a5⟩
    · obtain ⟨S1, e1, r1⟩ := W.yld i m g H x H' is[i] e.toBack S sm hdi hy
      cases ha : asg t is[i] env with
      | none => rw [ha] at hZ; exact hZ.elim
      | some env' =>
        rw [ha] at hZ
        refine ⟨env, g, _, env', hs.ext e1, r1, ha, fun σ2 hs2 _ => ⟨env', m, g, hs2, S1, ?_⟩⟩
        refine (Rx.bind (hZ.ext e1)).mono fun f m2 g2 H2 e2 s2 z2 => ?_
        cases f with
        | next env2 =>
          intro σ3 hs3
          simp only at z2
          split at z2
          · rename_i hsm
            exact ⟨env2, m2, g2, (e.trans e1).trans e2, s2, same_trans sm hsm, hs3, z2⟩
          · exact z2.elim
        | cnt env2 =>
          intro σ3 hs3
          simp only at z2
          split at z2
          · rename_i hsm
            exact ⟨env2, m2, g2, (e.trans e1).trans e2, s2, same_trans sm hsm, hs3, z2⟩
          · exact z2.elim
        | brk env2 => exact Rx.ok_now (Z := Z) z2 s2
        | ret v => exact Rx.ok_now (Z := Z) z2 s2
  · have hlen : i = is.length := by omega
    subst hlen
    rw [List.drop_length] at hZ
    exact .inl ⟨W.stop _ m g H e.toBack S sm (Nat.le_refl _), Rx.ok_now hZ S σ hs⟩
theorem ps_forR {iter : Expr} {body : List Stmt} {t : Tg} {k : Sk} {x : EX} (hx : PassesOwn (model X.prog X.w) X.A X.env X.xe) (hc : X.calm = true) (hi : PI X tg iter (iS X.K (srcR k ps))) (hg : PG X tg (gT X.K t)) (hb : PSs X body (tS X.K Z x)) (hs : notSet iter = true) :
    PS X (.For tg iter body [] pos) (tS X.K Z (xFor t k ps x)) := by
  refine PS.weak (ps_for hx hc hi hg hb (not_folded hs _)) fun D σ H ⟨env, m, g, hs, hm, hz⟩ => ?_
  refine ⟨env, m, g, hs, hm, (Rx.bindX hz).mono fun q m1 g1 H1 e1 s1 z1 J hJ hr => ?_⟩
  exact for_loop (hs.ext e1) s1 hJ hr z1
theorem ps_whileR {c : Expr} {body : List Stmt} {x : EX} {n : Nat} (hx : PassesOwn (model X.prog X.w) X.A X.env X.xe) (hc : PT X c (tT X.K p.t)) (hb : PSs X body (tS X.K Z x)) : PS X (.While c body [] pos) (tS X.K Z (whileLoop p x n)) := by
  refine PS.weak (ps_while hx hc hb) fun D σ H ⟨env, m, g, hs, hm, hz⟩ => ?_
  refine ⟨fun n σ H => ∃ (env : Env) (m : Mem) (g : G), Sg X.K env σ g H ∧ SimM X.K m g H ∧ Rx X.K Z (whileLoop p x n env m) g H (FlowQ X.K D), ⟨n, env, m, g, hs, hm, hz⟩, fun n σ H hW => ?_⟩
  obtain ⟨env, m, g, hs, hm, hz⟩ := hW
  cases n with
  | zero => exact hz.elim
  | succ n =>
    simp only [whileLoop] at hz
    refine ⟨env, m, g, hs, hm, (Rx.bindX hz).mono fun b m1 g1 H1 e1 s1 z1 => ?_⟩
    cases b with
    | false => exact Rx.ok_now (Z := Z) z1 s1 σ (hs.ext e1)
    | true =>
      simp only [if_true] at z1 ⊢
      refine ⟨fun σ' H' => ∃ (env : Env) (m : Mem) (g : G), Sg X.K env σ' g H' ∧ SimM X.K m g H' ∧ Rx X.K Z (whileLoop p x n env m) g H' (FlowQ X.K D), fun σ' H' hN => ⟨n, Nat.lt_succ_self _, hN⟩, env, m1, g1, hs.ext e1, s1, ?_⟩
      refine (Rx.bind z1).mono fun f m2 g2 H2 e2 s2 z2 => ?_
      cases f with
      | next env2 => exact fun σ3 hs3 => ⟨env2, m2, g2, hs3, s2, z2⟩
      | cnt env2 => exact fun σ3 hs3 => ⟨env2, m2, g2, hs3, s2, z2⟩
      | brk env2 => exact Rx.ok_now (Z := Z) z2 s2
      | ret v => exact Rx.ok_now (Z := Z) z2 s2
/-! calls -/
theorem Rz.bind0 {K : PySem.W.Frag} {α β : Type} {g : G} {H : Hp} {r : Res α} {f : α → Mem → Res β} {Q : β → Mem → G → Hp → Prop} (h : Rz K (r.bind f) g H Q) : Rz K r g H fun a m' g' H' => Ext g H g' H' ∧ SimM K m' g' H' ∧ Rz K (f a m') g H Q := by
  cases r with
  | ok a m' => exact fun g2 H2 e2 s2 => ⟨e2, s2, h⟩
  | exc x m' => exact h
  | fail => exact h
/-- what is raised, at its class's value -/
def XD (K : PySem.W.Frag) (f : Str) (vals : List PyData) (d : Option Addr) (g : G) (H : Hp) : Prop := (vals = [] ∧ d = none) ∨ ∃ y dd v, vals = [y] ∧ d = some dd ∧ H dd = some (.xd [(f, v)]) ∧ Rp K g.F H v y
def zE (K : PySem.W.Frag) (cv : Nat → Value × Str) (E : XK) : Zx := fun x _ g H => ∀ d, XD K (cv x.cls).2 x.vals d g H → E (cv x.cls).1 d H
def spOf (K : PySem.W.Frag) (cv : Nat → Value × Str) (np : Nat) (c : List Val → Mem → Res Val) : Sp := fun vs H Q E => vs.length = np ∧ ∃ args m g, SimM K m g H ∧ RpVs K g H vs args ∧ Rx K (zE K cv E) (c args m) g H (Ans K Q)
theorem RpVs.length {K : PySem.W.Frag} {g : G} {H : Hp} : ∀ {xs : List V} {vs : List Val}, RpVs K g H xs vs → xs.length = vs.length
  | _, _, .nil => rfl
  | _, _, .cons _ _ t => by rw [List.length_cons, List.length_cons, RpVs.length t]
theorem cArgs_len : ∀ (ps : List P) {env : Env} {m : Mem} {vs : List Val} {m' : Mem}, cArgs ps env m = .ok vs m' → vs.length = ps.length
  | [], env, m, ds, m', h => by
    simp only [cArgs, Res.ok.injEq] at h
    rw [← h.1]; rfl
  | p :: ps, env, m, ds, m', h => by
    simp only [cArgs] at h
    cases h1 : p.v env m with
    | fail => rw [h1] at h; simp at h
    | exc a b => rw [h1] at h; simp at h
    | ok v m1 =>
      rw [h1] at h; simp only [Res.bind_ok] at h
      cases h3 : cArgs ps env m1 with
      | fail => rw [h3] at h; simp at h
      | exc a b => rw [h3] at h; simp at h
      | ok ds' m3 =>
        rw [h3] at h; simp only [Res.bind_ok, Res.ok.injEq] at h
        rw [← h.1, List.length_cons, cArgs_len ps h3, List.length_cons]
theorem call_ok {K : PySem.W.Frag} {call : Call} {f : Nat} {cv : Nat → Value × Str} {σ : L2.St} {H : Hp} {Q : VK} {E : XK} (h : tE K (cCall call f ps) σ H Q) : tCall (spOf K cv ps.length (call f)) [] E (tAr K (cArgs ps)) σ H Q := by
  obtain ⟨env, m, g, hs, hm, hz⟩ := h
  refine ⟨env, m, g, hs, hm, ?_⟩
  have hz' := Rz.bind hz
  cases h1 : cArgs ps env m with
  | fail => rw [h1] at hz'; exact hz'.elim
  | exc a b => rw [h1] at hz'; exact hz'.elim
  | ok vs m1 =>
    rw [h1] at hz'
    intro g1 H1 e1 s1 xs rxs
    rw [List.append_nil]
    exact ⟨by rw [rxs.length, cArgs_len ps h1], vs, m1, g1, s1, rxs, (hz' g1 H1 e1 s1).rx⟩
/-- the cells of a def go -/
theorem leave_ok {K : PySem.W.Frag} {m m2 : Mem} {g g2 : G} {H H2 : Hp} {v : Val} {x : V} {Q : Val → Mem → G → Hp → Prop} (S : SimM K m g H) (e : Ext g H g2 H2) (s2 : SimM K m2 g2 H2) (r : RpV K g2 H2 x v) (hz : Rz K (leave m.length v m2) g H Q) :
    ∃ v' m' g', Ext g H g' H2 ∧ SimM K m' g' H2 ∧ RpV K g' H2 x v' ∧ Q v' m' g' H2 := by
  cases hl : leave m.length v m2 with
  | fail => rw [hl] at hz; exact hz.elim
  | exc a b => rw [hl] at hz; exact hz.elim
  | ok v' m' =>
    rw [hl] at hz
    have hn : m.length ≤ m2.length := by
      obtain ⟨more, h⟩ := e.ads
      rw [← S.len, ← s2.len, h, List.length_append]; omega
    obtain ⟨rfl, r'⟩ := s2.leave r hl hn
    have e' : Ext g H ⟨g2.F, g2.ad.take m.length, g2.pr⟩ H2 := ⟨e.sub, e.fix, e.tup, e.frz, by
      obtain ⟨more, h⟩ := e.ads
      exact ⟨[], by rw [h, ← S.len]; simp⟩, e.pre, e.keep⟩
    exact ⟨v', _, _, e', s2.take _, r', hz _ _ e' (s2.take _)⟩
theorem callc_ok {K : PySem.W.Frag} {call : Call} {f : Nat} {cv : Nat → Value × Str} {σ : L2.St} {H : Hp} {Q : VK} {E : XK} (h : tE K (cCallC call f ps) σ H Q) : tCall (spOf K cv ps.length (call f)) [] E (tAr K (cArgs ps)) σ H Q := by
  obtain ⟨env, m, g, hs, hm, hz⟩ := h
  refine ⟨env, m, g, hs, hm, ?_⟩
  have hz' := Rz.bind0 hz
  cases h1 : cArgs ps env m with
  | fail => rw [h1] at hz'; exact hz'.elim
  | exc a b => rw [h1] at hz'; exact hz'.elim
  | ok vs m1 =>
    rw [h1] at hz'
    intro g1 H1 e1 s1 xs rxs
    obtain ⟨_, _, z1⟩ := hz' g1 H1 e1 s1
    rw [List.append_nil]
    refine ⟨by rw [rxs.length, cArgs_len ps h1], vs, m1, g1, s1, rxs, ?_⟩
    cases h2 : call f vs m1 with
    | fail => rw [h2] at z1; exact z1.elim
    | exc a b => rw [h2] at z1; exact z1.elim
    | ok v m2 =>
      rw [h2] at z1
      show Rx K _ _ _ _ _
      intro g2 H2 e2 s2 x rx
      obtain ⟨v', m', g', k1, k2, k3, k4⟩ := leave_ok hm (e1.trans e2) s2 rx z1
      exact k4 x k3
theorem pe_cellR (h : PE X e (tE X.K p.v)) : PE X e (tE X.K (cCell p)) := by
  refine PE.weak h fun σ H Q ⟨env, m, g, hs, hm, hz⟩ => ?_
  refine ⟨env, m, g, hs, hm, (Rz.bind hz).mono fun v m1 g1 H1 e1 s1 z1 x rx => ?_⟩
  cases hc : mkCell v m1 with
  | fail => rw [hc] at z1; exact z1.elim
  | exc a b => rw [hc] at z1; exact z1.elim
  | ok v' m2 =>
    rw [hc] at z1
    obtain ⟨g2, s2, e2, r2, _⟩ := s1.mkCell rx hc
    exact z1 _ _ e2 s2 x r2
/-! a def -/
theorem start_ok {K : PySem.W.Frag} {g : G} {H : Hp} {N : List Str} : ∀ {xs : List V} {vs : List Val}, RpVs K g H xs vs → xs.length ≤ N.length → Sg K (vs.map some ++ List.replicate (N.length - vs.length) none) (L2.start N xs) g H := by
  intro xs vs h hl
  have hlen := h.length
  refine ⟨by unfold L2.start; simp [hlen], fun i v q => ?_⟩
  have key : ∀ {xs : List V} {vs : List Val} (r : RpVs K g H xs vs) (i : Nat) (v : Val), vs[i]? = some v → ∃ x, xs[i]? = some x ∧ RpV K g H x v ∧ ∀ ys, v ≠ .fr ys := by
    intro xs vs r
    induction r with
    | nil => intro i v h; simp at h
    | cons r hf t ih =>
      intro i v h
      cases i with
      | zero =>
        simp at h; subst h
        exact ⟨_, rfl, r, hf⟩
      | succ i =>
        simp at h
        obtain ⟨x, a, b, c⟩ := ih i v h
        exact ⟨x, by simpa using a, b, c⟩
  unfold getV at q
  by_cases hi : i < vs.length
  · rw [List.getElem?_append_left (by simpa using hi), List.getElem?_map, List.getElem?_eq_getElem hi] at q
    simp at q
    obtain ⟨x, a, b, c⟩ := key h i v (by rw [List.getElem?_eq_getElem hi, q])
    refine ⟨x, ?_, b, c⟩
    unfold L2.start
    rw [List.getElem?_append_left (by rw [List.length_map, hlen]; exact hi), List.getElem?_map, a]
    rfl
  · rw [List.getElem?_append_right (by simpa using hi), List.getElem?_replicate] at q
    split at q <;> cases q
theorem fn_zero {P : Program} {w : World} {K : PySem.W.Frag} {mg : Str → Option Value} {base : Heap} {CX : CXT} {f : Addr} {fd : FuncData} {ps : List Str} {T : List Fn} {wf i : Nat} {cv : Nat → Value × Str} : FnOk P w K mg base CX 0 f fd ps (spOf K cv ps.length (run T wf 0 i)) :=
  ⟨fun vs H Q E h => h.1, fun A outer s H args us vs Q E hr he hb hv ⟨_, _, _, _, _, _, hz⟩ => hz.elim⟩
/-- what stands around a def's statements -/
structure Arnd (X : Cx) (W : WX) : Prop where
  po : PassesOwn (model X.prog X.w) X.A X.env X.xe
  tk : Takes X W
  hs : X.stack = X.env :: X.outer
  hf : X.env.frame = some X.env.locals
theorem take_ext {K : PySem.W.Frag} {m : Mem} {g g1 : G} {H H1 : Hp} (Sm : SimM K m g H) (e1 : Ext g H g1 H1) : Ext g H ⟨g1.F, g1.ad.take m.length, g1.pr⟩ H1 := ⟨e1.sub, e1.fix, e1.tup, e1.frz, by
  obtain ⟨more, h⟩ := e1.ads
  exact ⟨[], by rw [h, ← Sm.len]; simp⟩, e1.pre, e1.keep⟩
theorem fn_succ {P : Program} {w : World} {K : PySem.W.Frag} {mg : Str → Option Value} {base : Heap} {x qual : Str} {params : Arguments} {body : List Stmt} {scope : Scope} {kws : List (Str × V)} {f : Addr} {fd : FuncData} {N ps : List Str} {T : List Fn} {wf i n : Nat} {Fb : Fn} {cv : Nat → Value × Str}
    (F : FunD K x qual params body scope [] kws f fd) (S : FnScope N ps scope) (hT : T[i]? = some Fb) (hn : Fb.n = N.length) (hps : Fb.ps = ps.length)
    (hb : ∀ (X : Cx) (E : XK), X.prog = P → X.w = w → X.K = K → X.mg = mg → X.base = base → X.env.scope = scope → X.N = N → X.calm = true → Arnd X (fun cls d _ H => E cls d H) → (∀ y, X.fn y = true) → Room n X.A → PSs X body (tS K (zE K cv E) (exB (run T wf n) wf Fb.body))) :
    FnOk P w K mg base (L2.CX P w) (n + 1) f fd ps (spOf K cv ps.length (run T wf (n + 1) i)) := by
  refine F.ok S (fun vs H Q E h => h.1) (fun cdv A outer s H vs Q E hr h => ?_)
  obtain ⟨hl, args, m, g, Sm, rvs, hz⟩ := h
  refine ⟨tS K (zE K cv E) (exB (run T wf n) wf Fb.body), ?_, ?_⟩
  · exact hb _ E rfl rfl rfl rfl rfl rfl rfl rfl ⟨passes_of rfl, takes_of rfl rfl rfl rfl, rfl, rfl⟩ (fun _ => rfl) hr
  · have hla := rvs.length
    simp only [run, hT] at hz
    split at hz
    · rename_i hc
      have hN : ps.length ≤ N.length := by rw [← hps, ← hn]; exact hc.2
      have hs : Sg K (args.map some ++ List.replicate (Fb.n - Fb.ps) none) (L2.start N vs) g H := by
        rw [hn, hps, ← hl, hla]
        exact start_ok rvs (by rw [hl]; exact hN)
      refine ⟨_, m, g, hs, Sm, ?_⟩
      cases hB : exB (run T wf n) wf Fb.body (args.map some ++ List.replicate (Fb.n - Fb.ps) none) m with
      | fail => rw [hB] at hz; exact hz.elim
      | exc y m1 =>
        rw [hB] at hz
        exact fun g1 H1 e1 s1 d hd => hz ⟨g1.F, g1.ad.take m.length, g1.pr⟩ H1 (take_ext Sm e1) (s1.take _) d hd
      | ok fl m1 =>
        rw [hB] at hz
        intro g1 H1 e1 s1
        cases fl with
        | ret v =>
          intro y ry
          have hz' : Rx K (zE K cv E) (leave m.length v m1) g H (Ans K Q) := hz
          have hz2 : Rz K (leave m.length v m1) g H (Ans K Q) := by
            cases hv : leave m.length v m1 with
            | ok a b => rw [hv] at hz'; exact hz'
            | fail => rw [hv] at hz'; exact hz'
            | exc a b =>
              exfalso
              unfold leave at hv
              cases v with
              | d _ => cases hv
              | fr _ => cases hv
              | dv _ => cases hv
              | mr k =>
                simp only at hv
                split at hv
                · cases hv
                · split at hv <;> cases hv
          obtain ⟨v', m', g', k1, k2, k3, k4⟩ := leave_ok Sm e1 s1 ry hz2
          exact k4 y k3
        | next env' =>
          intro σ' _
          exact hz _ _ (take_ext Sm e1) (s1.take _) .non .non
        | brk env' => exact hz.elim
        | cnt env' => exact hz.elim
    · exact hz.elim
end
end Ra


set_option Elab.async false
set_option linter.all false
set_option autoImplicit false
set_option maxRecDepth 100000
/-! stars, dicts, the first place -/
namespace Ra
open PySem PySem.Spec PyProof.Rows L2
section
variable {X : Cx} {e : Expr} {es : List Expr} {p : P} {ps : List P} {pos : Pos}
/-! stars -/
theorem pa_sF {bs : List Bool} (ha : PE X e (tE X.K p.v)) (hr : PA X es (tIt X.K (cItemsS bs ps))) (ns : notStar e = true) : PA X (e :: es) (tIt X.K (cItemsS (false :: bs) (p :: ps))) := by
  refine PA.weak (pa_cons ha hr (star1 ns _ _)) fun σ H Q ⟨env, m, g, hs, hm, hz⟩ => ?_
  refine ⟨env, m, g, hs, hm, (Rz.bind hz).mono fun v m1 g1 H1 e1 s1 z1 x rx => ?_⟩
  cases hf : frz v m1 with
  | fail => rw [hf] at z1; exact z1.elim
  | exc a b => rw [hf] at z1; exact z1.elim
  | ok d m2 =>
    rw [hf, Res.bind_ok] at z1
    obtain ⟨g2, s2, e2, r2⟩ := s1.frz rx hf
    exact ⟨env, m2, g2, (hs.ext e1).ext e2, s2, (Rz.bind (z1.ext e2)).mono fun ds m3 g3 H3 e3 s3 z3 xs rxs => Rz.ok_now z3 s3 (x :: xs) (.cons (Rp.ext e3 _ r2) rxs)⟩
theorem pa_sT {bs : List Bool} {q : Pos} (ha : PE X e (tE X.K p.v)) (hr : PA X es (tIt X.K (cItemsS bs ps))) : PA X (.Starred e q :: es) (tIt X.K (cItemsS (true :: bs) (p :: ps))) := by
  refine PA.weak (StX.pa_star ha hr) fun σ H Q ⟨env, m, g, hs, hm, hz⟩ => ?_
  refine ⟨env, m, g, hs, hm, (Rz.bind hz).mono fun v m1 g1 H1 e1 s1 z1 x rx => ?_⟩
  obtain ⟨g2, s2, e2, r2⟩ := s1.hold rx
  obtain ⟨d, hd, z2⟩ := Rz.rdBind (z1.ext e2)
  obtain ⟨ys, hy, z3⟩ := Rz.optBind z2
  have rr := s2.read (nf_ne v) r2 hd
  have key : ∃ a xs, x = V.ref a ∧ (SqT X.K H1 a xs ∨ SqL X.K H1 a xs) ∧ RpAll X.K g2.F H1 xs ys := by
    cases d with
    | list ds =>
      cases hy
      obtain ⟨a, xs, rfl, h1, h2⟩ := rr.lst
      exact ⟨a, xs, rfl, .inr (.inl h1), h2⟩
    | tuple ds =>
      cases hy
      obtain ⟨a, xs, rfl, h1, h2⟩ := rr.tup
      exact ⟨a, xs, rfl, .inl h1, h2⟩
    | none | bool _ | int _ | str _ | dict _ => cases hy
  obtain ⟨a, xs, rfl, h1, h2⟩ := key
  exact ⟨a, xs, rfl, h1, env, m1, g2, (hs.ext e1).ext e2, s2, (Rz.bind z3).mono fun ds m3 g3 H3 e3 s3 z4 zs rzs => Rz.ok_now z4 s3 (xs ++ zs) ((RpAll.ext e3 _ h2).append rzs)⟩
theorem pa_sN : PA X [] (tIt X.K (cItemsS [] [])) := PA.weak pa_nil fun σ H Q ⟨env, m, g, hs, hm, hz⟩ => Rz.ok_now hz hm [] .nil
theorem pe_tupS {k : Nat} {bs : List Bool} (h : PA X es (tIt X.K (cItemsS bs ps))) : PE X (.Tuple es k pos) (tE X.K (cTupS bs ps)) := by
  refine PE.weak (pe_tup h) fun σ H Q ⟨env, m, g, hs, hm, hz⟩ => ?_
  refine ⟨env, m, g, hs, hm, (Rz.bind hz).mono fun ds m1 g1 H1 e1 s1 z1 xs rxs => ?_⟩
  split at z1
  · rename_i hl
    have hz : xs.length ≤ sizeLine := by rw [rxs.length, sizeLine_eq]; exact hl
    refine ⟨hz, fun t ht => ?_⟩
    obtain ⟨a1, a2, a3⟩ := new_tup s1 ht rxs hz
    exact Rz.ok_now (z1.ext a2) a1 _ a3
  · exact z1.elim
theorem pe_lstS {bs : List Bool} (h : PA X es (tIt X.K (cItemsS bs ps))) : PE X (.List es pos) (tE X.K (cLstS bs ps)) := by
  refine PE.weak (pe_lst h) fun σ H Q ⟨env, m, g, hs, hm, hz⟩ => ?_
  refine ⟨env, m, g, hs, hm, (Rz.bind hz).mono fun ds m1 g1 H1 e1 s1 z1 xs rxs => ?_⟩
  split at z1
  · rename_i hl
    have hz : xs.length ≤ sizeLine := by rw [rxs.length, sizeLine_eq]; exact hl
    refine ⟨hz, fun t ht => ?_⟩
    obtain ⟨a1, a2, a3⟩ := new_list s1 ht rxs hz
    exact Rz.ok_now (z1.ext a2) a1 _ a3
  · exact z1.elim
/-! dicts -/
theorem keyD_beq (j k : Key) : beqD (keyD j) (keyD k) = decide (j = k) := by
  cases j with
  | inl i =>
    cases k with
    | inl i' => show (i == i') = _; by_cases h : i = i' <;> simp [h]
    | inr z => simp [keyD, beqD]
  | inr z =>
    cases k with
    | inl i => simp [keyD, beqD]
    | inr z' => show (z == z') = _; by_cases h : z = z' <;> simp [h]
variable {K : PySem.W.Frag} {F : Addr → Prop} {H : Hp}
theorem RpK.len : ∀ {ks : List (Key × V)} {ds : List (PyData × PyData)}, RpK K F H ks ds → ks.length = ds.length
  | _, _, .nil => rfl
  | _, _, .cons _ t => by simp [t.len]
theorem RpK.look (k : Key) : ∀ {ks : List (Key × V)} {ds : List (PyData × PyData)}, RpK K F H ks ds → (valV ks k = none ∧ dLook ds (keyD k) = none) ∨ ∃ v d, valV ks k = some v ∧ dLook ds (keyD k) = some d ∧ Rp K F H v d
  | _, _, .nil => .inl ⟨rfl, rfl⟩
  | _, _, .cons (k := j) (v := v) (d := d) a t => by
    by_cases h : j = k
    · subst h
      exact .inr ⟨v, d, valV_pos rfl, by simp [dLook, keyD_beq], a⟩
    · have hb : beqD (keyD j) (keyD k) = false := by rw [keyD_beq]; exact decide_eq_false h
      rcases t.look k with ⟨q1, q2⟩ | ⟨v', d', q1, q2, q3⟩
      · exact .inl ⟨by rw [valV_neg h]; exact q1, by simp [dLook, hb, q2]⟩
      · exact .inr ⟨v', d', by rw [valV_neg h]; exact q1, by simp [dLook, hb, q2], q3⟩
theorem RpK.any (k : Key) : ∀ {ks : List (Key × V)} {ds : List (PyData × PyData)}, RpK K F H ks ds → (ds.any fun p => beqD p.1 (keyD k)) = ks.any fun kv => decide (kv.1 = k)
  | _, _, .nil => rfl
  | _, _, .cons a t => by simp only [List.any_cons, t.any k, keyD_beq]
theorem RpK.map {k : Key} {v : V} {d : PyData} (r : Rp K F H v d) : ∀ {ks : List (Key × V)} {ds : List (PyData × PyData)}, RpK K F H ks ds → RpK K F H (ks.map fun kv => if kv.1 = k then (kv.1, v) else kv) (ds.map fun p => if beqD p.1 (keyD k) = true then (p.1, d) else p)
  | _, _, .nil => .nil
  | _, _, .cons (k := j) a t => by
    by_cases h : j = k
    · simp only [List.map_cons, keyD_beq, h, decide_true, if_true]
      exact .cons r (t.map r)
    · simp only [List.map_cons, keyD_beq, h, decide_false, Bool.false_eq_true, if_false]
      exact .cons a (t.map r)
theorem RpK.snoc {k : Key} {v : V} {d : PyData} (r : Rp K F H v d) : ∀ {ks : List (Key × V)} {ds : List (PyData × PyData)}, RpK K F H ks ds → RpK K F H (ks ++ [(k, v)]) (ds ++ [(keyD k, d)])
  | _, _, .nil => .cons r .nil
  | _, _, .cons a t => .cons a (t.snoc r)
theorem RpK.put {k : Key} {v : V} {d : PyData} (r : Rp K F H v d) {ks : List (Key × V)} {ds : List (PyData × PyData)} (t : RpK K F H ks ds) : RpK K F H (putK ks k v) (dPut ds (keyD k) d) := by
  unfold putK dPut
  rw [t.any k]
  split
  · exact t.map r
  · exact t.snoc r
theorem put_len (k : Key) (v : V) (ks : List (Key × V)) : (putK ks k v).length ≤ ks.length + 1 := by
  unfold putK
  split
  · simp
  · simp
/-- a key among data -/
theorem key_of {x : V} {y : PyData} (h : Rr K F H x y) (hk : keyB y = true) : ∃ k : Key, x = kV k ∧ y = keyD k := by
  cases y with
  | int i => exact ⟨.inl i, h.int, rfl⟩
  | str z => exact ⟨.inr z, h.str, rfl⟩
  | none | bool _ | list _ | tuple _ | dict _ => cases hk
theorem up_dict {m : Mem} {g : G} {H : Hp} {D : Addr} {ks ks' : List (Key × V)} (S : SimM K m g H) (hD : H D = some (.dK ks)) (nF : ¬ g.F D) (nA : D ∉ g.ad) (nP : ¬ g.pr D) : SimM K m g (upd H D (.dK ks')) ∧ Ext g H g (upd H D (.dK ks')) := by
  have e : Ext g H g (upd H D (.dK ks')) := ⟨fun _ h => h, fun b hb => by
    have z : b ≠ D := fun z => nF (by rw [← z]; exact hb)
    rw [upd_ne z], fun b xs hb => by rw [upd_ne (ne_of hb hD (by intro z; cases z))]; exact hb, fun b o u hb => by rw [upd_ne (ne_of hb hD (by intro z; cases z))]; exact hb, ⟨[], by simp⟩, rfl, fun b hb => by
    have z : b ≠ D := fun z => nP (by rw [← z]; exact hb)
    rw [upd_ne z]⟩
  refine ⟨⟨fun b hb => ?_, S.len, S.nd, fun k c b h1 h2 => ?_, fun b xs hb => ?_, fun b hb => ?_, S.prF, S.prA⟩, e⟩
  · obtain ⟨xs, z⟩ := S.fs b hb
    exact ⟨xs, (e.fix b hb).trans z⟩
  · obtain ⟨us, p', q', r', t'⟩ := S.cell k c b h1 h2
    have nb : b ≠ D := fun z => nA (by rw [← z]; exact List.mem_of_getElem? h2)
    exact ⟨us, by rw [upd_ne nb]; exact p', RpAll.ext e _ q', r', t'⟩
  · by_cases hb' : b = D
    · subst hb'
      rw [upd_same] at hb
      rcases hb with z | z | ⟨_, z⟩ | ⟨_, z⟩ <;> cases z
    · rw [upd_ne hb'] at hb
      exact S.sz b xs hb
  · obtain ⟨o', q'⟩ := S.prs b hb
    exact ⟨o', (e.keep b hb).trans q'⟩
/-- a dict that is new, held from now on -/
theorem new_dv {m : Mem} {g : G} {H : Hp} {D : Addr} {ks : List (Key × V)} {ds : List (PyData × PyData)} (S : SimM K m g H) (hD : H D = some (.dK ks)) (nA : D ∉ g.ad) (nP : ¬ g.pr D) (r : RpK K g.F H ks ds) :
    ∃ g', SimM K m g' H ∧ Ext g H g' H ∧ RpV K g' H (.ref D) (.dv ds) := by
  obtain ⟨S', e⟩ := S.fix hD nA nP
  exact ⟨_, S', e, D, ks, rfl, .inl rfl, hD, RpK.ext e r⟩
theorem dictR_of {v : Val} {m : Mem} {g : G} {H : Hp} {α : Type} {f : List (PyData × PyData) → Mem → Res α} {Q : α → Mem → G → Hp → Prop} (h : Rz K ((dictR v m).bind f) g H Q) : ∃ kvs, v = .dv kvs ∧ Rz K (f kvs m) g H Q := by
  cases v with
  | dv kvs => exact ⟨kvs, rfl, h⟩
  | d _ => exact h.elim
  | fr _ => exact h.elim
  | mr _ => exact h.elim
theorem keyR_of {y : PyData} {m : Mem} {g : G} {H : Hp} {α : Type} {f : PyData → Mem → Res α} {Q : α → Mem → G → Hp → Prop} (h : Rz K ((keyR y m).bind f) g H Q) : keyB y = true ∧ Rz K (f y m) g H Q := by
  unfold keyR at h
  split at h
  · rename_i hk; exact ⟨hk, h⟩
  · exact h.elim
theorem pe_dgetR {o f : Expr} {apos cpos : Pos} {pd pk px : P} (hu : X.A.units + 1 < cLine) (ho : PE X o (tE X.K pd.v)) (he : PE X e (tE X.K pk.v)) (hf : PE X f (tE X.K px.v)) (m : M2 X o "get" apos e f cpos) :
    PE X (.Call (.Attribute o "get" apos) [e, f] [] cpos) (tE X.K (cDget pd pk px)) := by
  refine PE.weak (pe_dget2 hu ho he hf m) fun σ H Q ⟨env, m, g, hs, hm, hz⟩ => ?_
  refine ⟨env, m, g, hs, hm, (Rz.bind hz).mono fun vd m1 g1 H1 e1 s1 z1 x rx => ?_⟩
  obtain ⟨kvs, rfl, z1'⟩ := dictR_of z1
  have rx0 := rx
  obtain ⟨a, ks, rfl, q1, q2, q3⟩ := rx0
  refine ⟨a, rfl, .inl ⟨ks, .inl q2⟩, env, m1, g1, hs.ext e1, s1, (Rz.bind z1').mono fun vk m2 g2 H2 e2 s2 z2 y ry => ?_⟩
  obtain ⟨g3, s3, e3, r3⟩ := s2.hold ry
  refine ⟨env, m2, g3, ((hs.ext e1).ext e2).ext e3, s3, (Rz.bind (z2.ext e3)).mono fun vx m4 g4 H4 e4 s4 z4 z rz => ?_⟩
  obtain ⟨g5, s5, e5, r5⟩ := s4.hold rz
  obtain ⟨yd, hyd, z5⟩ := Rz.rdBind z4
  obtain ⟨hk, z6⟩ := keyR_of z5
  have rr := s4.read (nf_ne vk) (r3.ext e4 (nf_ne vk)) hyd
  obtain ⟨k, rfl, rfl⟩ := key_of rr hk
  cases hf : frz vx m4 with
  | fail => rw [hf] at z6; exact z6.elim
  | exc a b => rw [hf] at z6; exact z6.elim
  | ok zd m5 =>
    rw [hf, Res.bind_ok] at z6
    obtain ⟨g6, s6, e6, r6⟩ := s4.frz rz hf
    have eA := ((e2.trans e3).trans e4).trans e6
    have q2' : H4 a = some (.dK ks) := (eA.fix a q1).trans q2
    have q3' := RpK.ext eA q3
    refine ⟨valV ks k, .inl ⟨ks, k, .inl q2', rfl, rfl⟩, ?_⟩
    rcases q3'.look k with ⟨l1, l2⟩ | ⟨v, d, l1, l2, l3⟩
    · rw [l1]
      rw [l2] at z6
      exact Rz.ok_now (z6.ext e6) s6 z r6
    · rw [l1]
      rw [l2] at z6
      exact Rz.ok_now (z6.ext e6) s6 v l3
theorem pe_datR {o i : Expr} {pd pk : P} (hu : X.A.units + 1 < cLine) (ho : PE X o (tE X.K pd.v)) (he : PE X i (tE X.K pk.v)) (hn : NoSl i) : PE X (.Subscript o i pos) (tE X.K (cDat pd pk)) := by
  refine PE.weak (pe_dget hu ho he hn) fun σ H Q ⟨env, m, g, hs, hm, hz⟩ => ?_
  refine ⟨env, m, g, hs, hm, (Rz.bind hz).mono fun vd m1 g1 H1 e1 s1 z1 x rx => ?_⟩
  obtain ⟨kvs, rfl, z1'⟩ := dictR_of z1
  have rx0 := rx
  obtain ⟨a, ks, rfl, q1, q2, q3⟩ := rx0
  refine ⟨env, m1, g1, hs.ext e1, s1, (Rz.bind z1').mono fun vk m2 g2 H2 e2 s2 z2 y ry => ?_⟩
  obtain ⟨g3, s3, e3, r3⟩ := s2.hold ry
  obtain ⟨yd, hyd, z5⟩ := Rz.rdBind (z2.ext e3)
  obtain ⟨hk, z6⟩ := keyR_of z5
  obtain ⟨k, rfl, rfl⟩ := key_of (s3.read (nf_ne vk) r3 hyd) hk
  obtain ⟨d, hd, z7⟩ := Rz.optBind z6
  have eA := e2.trans e3
  rcases (RpK.ext eA q3).look k with ⟨l1, l2⟩ | ⟨v, d', l1, l2, l3⟩
  · rw [l2] at hd; cases hd
  · rw [l2] at hd
    cases hd
    exact ⟨a, v, rfl, .inl ⟨ks, k, .inl ((eA.fix a q1).trans q2), rfl, l1.symm⟩, Rz.ok_now z7 s3 v l3⟩
theorem din_ok {neg : Bool} {pk pd : P} {σ : L2.St} {H : Hp} {Q : VK} (h : tE X.K (cDin neg pk pd) σ H Q) : tE X.K pk.v σ H fun y H1 => tE X.K pd.v σ H1 fun x H2 => ∃ a o, x = .ref a ∧ DGet H2 a y o ∧ Q (.bl (xor neg o.isSome)) H2 := by
  obtain ⟨env, m, g, hs, hm, hz⟩ := h
  refine ⟨env, m, g, hs, hm, (Rz.bind hz).mono fun vk m1 g1 H1 e1 s1 z1 y ry => ?_⟩
  obtain ⟨g2, s2, e2, r2⟩ := s1.hold ry
  refine ⟨env, m1, g2, (hs.ext e1).ext e2, s2, (Rz.bind (z1.ext e2)).mono fun vd m3 g3 H3 e3 s3 z3 x rx => ?_⟩
  obtain ⟨yd, hyd, z5⟩ := Rz.rdBind z3
  obtain ⟨hk, z6⟩ := keyR_of z5
  obtain ⟨kvs, rfl, z7⟩ := dictR_of z6
  obtain ⟨k, rfl, rfl⟩ := key_of (s3.read (nf_ne vk) (r2.ext e3 (nf_ne vk)) hyd) hk
  obtain ⟨a, ks, rfl, q1, q2, q3⟩ := rx
  refine ⟨a, valV ks k, rfl, .inl ⟨ks, k, .inl q2, rfl, rfl⟩, ?_⟩
  have e : (valV ks k).isSome = (dLook kvs (keyD k)).isSome := by
    rcases q3.look k with ⟨l1, l2⟩ | ⟨v, d', l1, l2, l3⟩ <;> rw [l1, l2] <;> rfl
  rw [e]
  exact ans_d s3 z7 (.bl _)
theorem pe_dinR {i o : Expr} {pk pd : P} (hu : X.A.units + 1 < cLine) (hi : PE X i (tE X.K pk.v)) (ho : PE X o (tE X.K pd.v)) (hb : behindInMarks .In o = false) : PE X (.Compare i [.In] [o] pos) (tE X.K (cDin false pk pd)) :=
  PE.weak (pe_cmp (pc_din hu hi ho) hb) fun σ H Q h => by
    have q := din_ok h
    simp only [Bool.false_xor] at q
    exact q
theorem pe_dnotinR {i o : Expr} {pk pd : P} (hu : X.A.units + 1 < cLine) (hi : PE X i (tE X.K pk.v)) (ho : PE X o (tE X.K pd.v)) (hb : behindInMarks .NotIn o = false) : PE X (.Compare i [.NotIn] [o] pos) (tE X.K (cDin true pk pd)) :=
  PE.weak (pe_cmp (pc_dnotin hu hi ho) hb) fun σ H Q h => by
    have q := din_ok h
    simp only [Bool.true_xor] at q
    exact q
/-! dict(pairs) -/
theorem pairs_ok {m : Mem} {g : G} {H : Hp} (S : SimM K m g H) : ∀ {xs : List V} {ds : List PyData} {acc out : List (PyData × PyData)} {ka : List (Key × V)}, RpAll K g.F H xs ds → RpK K g.F H ka acc → pairsD ds acc = some out →
    ∃ (ps : List Addr) (kvs : List (Key × V)), xs = ps.map V.ref ∧ Paired (fun p (kv : Key × V) => SqT K H p [kV kv.1, kv.2]) ps kvs ∧ RpK K g.F H (mergeK ka kvs) out
  | _, [], acc, out, ka, .nil, r, h => by
    obtain rfl : acc = out := Option.some.inj h
    exact ⟨[], [], rfl, .nil, r⟩
  | _, d :: ds, acc, out, ka, .cons a t, r, h => by
    unfold pairsD at h
    split at h
    · cases (by assumption : d :: ds = [])
    · rename_i k v rest heq
      obtain ⟨rfl, rfl⟩ := List.cons.inj heq
      split at h
      · rename_i hk
        obtain ⟨p, ys, rfl, h1, h2⟩ := (Rp.rr a).tup
        cases h2 with
        | cons b1 b2 =>
          cases b2 with
          | cons c1 c2 =>
            cases c2
            obtain ⟨kk, rfl, rfl⟩ := key_of (Rp.rr b1) hk
            obtain ⟨ps, kvs, rfl, q1, q2⟩ := pairs_ok S t (r.put (k := kk) c1) h
            exact ⟨p :: ps, (kk, _) :: kvs, rfl, .cons h1 q1, q2⟩
      · cases h
    · cases h
theorem pe_dmkR {q : Pos} (hc : X.calm = true) (hg : Gl X "dict") (hm : X.mg "dict" = none) (ha : PE X e (tE X.K p.v)) (ns : notStar e = true) : PE X (.Call (.Name "dict" q) [e] [] pos) (tE X.K (cDmk p)) := by
  have b1 : bootBuiltins "dict" = some (.type "dict") := by decide +kernel
  refine PE.weak (pe_callTy (p := q) (pos := pos) (call_dictP hc) hg hm b1 (pa_cons ha pa_nil (star1 ns _ _)) (by decide) (by decide) (star1 ns _ _) (star_plain _ _ _ rfl)) fun σ H Q ⟨env, m, g, hs, hm', hz⟩ => ?_
  refine ⟨env, m, g, hs, hm', (Rz.bind hz).mono fun v m1 g1 H1 e1 s1 z1 x rx => ?_⟩
  obtain ⟨g2, s2, e2, r2⟩ := s1.hold rx
  obtain ⟨d, hd, z2⟩ := Rz.rdBind (z1.ext e2)
  have rr := s2.read (nf_ne v) r2 hd
  cases d with
  | list ds =>
    obtain ⟨kvs, hk, z3⟩ := Rz.optBind z2
    obtain ⟨a, xs, rfl, h1, h2⟩ := rr.lst
    obtain ⟨ps, ks, rfl, q1, q2⟩ := pairs_ok s2 h2 .nil hk
    refine ⟨a, ps, ks, rfl, .inl h1, q1, fun D hD => ?_⟩
    have s3 := sim_new (o := .dK (mergeK [] ks)) s2 hD trivial
    have e3 := ext_new (o := .dK (mergeK [] ks)) s2 hD
    obtain ⟨g4, s4, e4, r4⟩ := new_dv s3 upd_same (not_ad s2 hD) (not_pr s2 hD) (RpK.ext e3 q2)
    exact Rz.ok_now (z3.ext (e3.trans e4)) s4 _ r4
  | none | bool _ | int _ | str _ | tuple _ | dict _ => exact z2.elim
/-! {k: v for ..} -/
structure AtK (K : PySem.W.Frag) (D : Addr) (m : Mem) (g : G) (H : Hp) (ks : List (Key × V)) (ds : List (PyData × PyData)) : Prop where
  sim : SimM K m g H
  at_ : H D = some (.dK ks)
  rp : RpK K g.F H ks ds
  nF : ¬ g.F D
  nA : D ∉ g.ad
  nP : ¬ g.pr D
theorem dc_ok {own : List Nat} {t : Tg} {k : Sk} {src tests : List P} {ke ve : P} (hsl : ∀ i ∈ slots t, i ∈ own) {σ : L2.St} {H : Hp} {Q : VK} (h : tE K (cDc own t k src tests ke ve) σ H Q) :
    tDc (iS K (srcR k src)) (gT K t) (tT K (tAll tests)) (tE K ke.v) (tE K ve.v) own σ H Q := by
  obtain ⟨env, m, g, hs, hm, hz⟩ := h
  refine ⟨env, m, g, hs, hm, (Rz.bind hz).mono fun q m0 g0 H0 e0 S0 z0 J W hr => ?_⟩
  replace hs := hs.ext e0
  obtain ⟨is, gs⟩ := q
  dsimp only at z0 W hr
  intro D hD
  refine ⟨fun i n H => ∃ (m : Mem) (g : G) (ks : List (Key × V)) (ds : List (PyData × PyData)), i + n = is.length ∧ Ext g0 H0 g H ∧ AtK K D m g H ks ds ∧ same gs m0 m = true ∧ ks.length ≤ i ∧ Rz K (dcLoop t tests ke ve gs (wipe env own) (is.drop i) ds m) g H fun zs m' g' H' => ∀ x, RpV K g' H' x (.dv zs) → Q x H',
    ⟨is.length, m0, g0, [], [], Nat.zero_add _, ext_new S0 hD, ⟨sim_new S0 hD trivial, upd_same, .nil, not_F S0 hD, not_ad S0 hD, not_pr S0 hD⟩, hr, Nat.le_refl _, ?_⟩, fun i n H hW => ?_⟩
  · rw [List.drop_zero]
    exact ((Rz.bind z0).mono fun ys m2 g2 H2 e2 s2 z2 => Rz.ok_now z2 s2).ext (ext_new S0 hD)
  · obtain ⟨m, g, ks, ds, hn, e, ⟨S, hA, hR, nF, nA, nP⟩, sm, hl, hZ⟩ := hW
    by_cases hi : i < is.length
    · have hdi : is[i]? = some is[i] := List.getElem?_eq_getElem hi
      rw [List.drop_eq_getElem_cons hi] at hZ
      simp only [dcLoop] at hZ
      refine .inr ⟨W.go i m g H e.toBack S sm hi, fun H' => ∃ (m : Mem) (g : G) (ks : List (Key × V)) (ds : List (PyData × PyData)), Ext g0 H0 g H' ∧ AtK K D m g H' ks ds ∧ same gs m0 m = true ∧ ks.length ≤ i + 1 ∧ Rz K (dcLoop t tests ke ve gs (wipe env own) (is.drop (i + 1)) ds m) g H' fun zs m' g' H' => ∀ x, RpV K g' H' x (.dv zs) → Q x H', fun H' hN => ?_, fun x H' hy => ?_⟩
      · obtain ⟨m', g', acc', ys', a1, a2, a3, a4, a5⟩ := hN
        exact ⟨n - 1, by omega, m', g', acc', ys', by omega, a1, a2, a3, a4, a5⟩
      · obtain ⟨S1, e1, r1⟩ := W.yld i m g H x H' is[i] e.toBack S sm hdi hy
        have hs1 : Sg K (wipe env own) (L2.wipe σ own) g H' := ((hs.ext e).ext e1).wipe own
        have hZ1 := hZ.ext e1
        cases ha : asg t is[i] (wipe env own) with
        | none => rw [ha] at hZ1; exact hZ1.elim
        | some env' =>
          rw [ha] at hZ1
          refine ⟨_, g, _, env', hs1, r1, ha, fun σ2 hs2 w2 => ⟨by rw [w2 own hsl]; exact wipe_wipe σ own, ?_⟩⟩
          have hA1 : H' D = some (.dK ks) := ((W.yld i m (g.hold D) H x H' is[i] e.toBack (prot S hA nF nA) sm hdi hy).2.1.keep D (.inl rfl)).trans hA
          have hR1 := RpK.ext e1 hR
          have S2 := prot S1 hA1 nF nA
          dsimp only at hZ1
          refine ⟨env', m, g.hold D, Sg.pr hs2, S2, ?_⟩
          cases ht : tAll tests env' m with
          | fail => rw [ht] at hZ1; exact hZ1.elim
          | exc a b => rw [ht] at hZ1; exact hZ1.elim
          | ok b m1 =>
            rw [ht, Res.bind_ok] at hZ1
            intro g2 H2 e2 s2
            obtain ⟨s2', e2', hD2, nF2, nA2⟩ := unprot s2 e2
            have hz2 := hZ1.ext e2'
            cases b with
            | false =>
              simp only [Bool.false_eq_true, if_false] at hz2 ⊢
              split at hz2
              · rename_i hsm
                exact ⟨m1, _, ks, ds, (e.trans e1).trans e2', ⟨s2', hD2.trans hA1, RpK.ext e2' hR1, nF2, nA2, nP⟩, same_trans sm hsm, by omega, hz2⟩
              · exact hz2.elim
            | true =>
              simp only [if_true] at hz2 ⊢
              refine ⟨env', m1, g2, (Sg.pr hs2).ext e2, s2, ?_⟩
              cases hv : ke.v env' m1 with
              | fail => rw [hv] at hz2; exact hz2.elim
              | exc a b => rw [hv] at hz2; exact hz2.elim
              | ok vk m2 =>
                rw [hv, Res.bind_ok] at hz2
                intro g3 H3 e3 s3 y ry
                cases hf : frz vk m2 with
                | fail => rw [hf] at hz2; exact hz2.elim
                | exc a b => rw [hf] at hz2; exact hz2.elim
                | ok yd m3 =>
                  rw [hf, Res.bind_ok] at hz2
                  obtain ⟨g4, s4, e4, r4⟩ := s3.frz ry hf
                  refine ⟨env', m3, g4, (((Sg.pr hs2).ext e2).ext e3).ext e4, s4, ?_⟩
                  cases hv5 : ve.v env' m3 with
                  | fail => rw [hv5] at hz2; exact hz2.elim
                  | exc a b => rw [hv5] at hz2; exact hz2.elim
                  | ok vv m4 =>
                    rw [hv5, Res.bind_ok] at hz2
                    intro g5 H5 e5 s5 z rz
                    cases hf6 : frz vv m4 with
                    | fail => rw [hf6] at hz2; exact hz2.elim
                    | exc a b => rw [hf6] at hz2; exact hz2.elim
                    | ok zd m5 =>
                      rw [hf6, Res.bind_ok] at hz2
                      obtain ⟨g6, s6, e6, r6⟩ := s5.frz rz hf6
                      split at hz2
                      · rename_i hc
                        obtain ⟨kk, rfl, rfl⟩ := key_of (Rp.rr r4) hc.1
                        obtain ⟨s6', e6', hD6, nF6, nA6⟩ := unprot s6 ((((e2.trans e3).trans e4).trans e5).trans e6)
                        have hA6 : H5 D = some (.dK ks) := hD6.trans hA1
                        have r6' : Rp K (g6.back g.pr).F H5 z zd := r6
                        obtain ⟨s7, e7⟩ := up_dict (ks' := putK ks kk z) s6' hA6 nF6 nA6 nP
                        have hlt : ks.length < sizeLine := Nat.lt_of_le_of_lt hl (Nat.lt_of_lt_of_le hi W.len)
                        have hpl := put_len kk z ks
                        refine ⟨ks, kk, rfl, hA6, hlt, m5, g6.back g.pr, putK ks kk z, dPut ds (keyD kk) zd, ((e.trans e1).trans e6').trans e7, ⟨s7, upd_same, RpK.ext e7 ((RpK.ext e6' hR1).put r6'), nF6, nA6, nP⟩, same_trans sm hc.2, by omega, ?_⟩
                        have eB : Ext (g2.back g.pr) H2 (g6.back g.pr) H5 := by
                          have eC := ((e3.trans e4).trans e5).trans e6
                          exact ⟨eC.sub, eC.fix, eC.tup, eC.frz, eC.ads, rfl, fun a h => eC.keep a (by rw [e2.pre]; exact .inr h)⟩
                        exact hz2.ext (eB.trans e7)
                      · exact hz2.elim
    · have hlen : i = is.length := by omega
      subst hlen
      refine .inl ⟨W.stop _ m g H e.toBack S sm (Nat.le_refl _), ?_⟩
      rw [List.drop_length] at hZ
      simp only [dcLoop] at hZ
      obtain ⟨g4, s4, e4, r4⟩ := new_dv S hA nA nP hR
      exact Rz.ok_now (hZ.ext e4) s4 _ r4
/-! the first place -/
theorem lFind_ok {y : PyData} : ∀ {xs : List PyData} {i j : Nat}, lFind y i xs = some j → ∃ n z, j = i + n ∧ xs[n]? = some z ∧ PyData.eqv z y = true ∧ ∀ (m : Nat) (z' : PyData), m < n → xs[m]? = some z' → PyData.eqv z' y = false
  | [], i, j, h => by cases h
  | x :: xs, i, j, h => by
    unfold lFind at h
    split at h
    · rename_i hx
      obtain rfl : i = j := Option.some.inj h
      exact ⟨0, x, rfl, rfl, hx, fun m z' hm => absurd hm (Nat.not_lt_zero _)⟩
    · rename_i hx
      obtain ⟨n, z, rfl, h1, h2, h3⟩ := lFind_ok h
      refine ⟨n + 1, z, by omega, by simpa using h1, h2, fun m z' hm hz => ?_⟩
      cases m with
      | zero =>
        simp at hz
        subst hz
        exact Bool.eq_false_iff.mpr hx
      | succ m => exact h3 m z' (by omega) (by simpa using hz)
theorem pe_lidxR {i : Nat} {x : Str} {q apos cpos : Pos} (hu : X.A.units + 200 < cLine) (hN : X.N[i]? = some x) (hv : Vis X.env.scope x) (hd : (x == ("__debug__" : Str)) = false) (hcd : (x == ("__classdict__" : Str)) = false) (ha : PE X e (tE X.K p.v)) (ns : notStar e = true)
    (hl : (apos.endLine == cpos.line) = true) : PE X (.Call (.Attribute (.Name x q) "index" apos) [e] [] cpos) (tE X.K (cLidx i p)) := by
  refine PE.weak (pe_bm PySem.F.plainAttrs_list PySem.F.slot_list_index PySem.F.type_list_index (mt_indexD (by omega)) (pe_var hN hv hd hcd) (pa_cons ha pa_nil (star1 ns _ _)) rfl (few_ok ns _) hl (star1 ns _ _) rfl) fun σ H Q ⟨env, m, g, hs, hm, hz⟩ => ?_
  unfold cLidx at hz
  cases hk : getV env i with
  | none => rw [hk] at hz; exact hz.elim
  | some vv =>
    rw [hk] at hz
    cases vv with
    | d _ => exact hz.elim
    | fr _ => exact hz.elim
    | dv _ => exact hz.elim
    | mr k =>
      obtain ⟨a, h1, h2, c, vs, h3, h4, h5⟩ := cell_at hs hm hk
      refine ⟨.ref a, h1, .inl ⟨rfl, vs, .inl (.inl h4)⟩, env, m, g, hs, hm, (Rz.bind hz).mono fun v m1 g1 H1 e1 s1 z1 y ry => ?_⟩
      obtain ⟨g2, s2, e2, r2⟩ := s1.hold ry
      obtain ⟨dj, hdj, z2⟩ := Rz.rdBind (z1.ext e2)
      have rj := s2.read (nf_ne v) r2 hdj
      have h2' : g2.ad[k]? = some a := e2.at (e1.at h2)
      cases hm1 : m1[k]? with
      | none => rw [hm1] at z2; exact z2.elim
      | some cc =>
        rw [hm1] at z2
        dsimp only at z2
        obtain ⟨ws, k1, k2, k3, k4⟩ := s2.cell k cc a hm1 h2'
        split at z2
        · rename_i hdep
          obtain ⟨j, hj, z3⟩ := Rz.optBind z2
          obtain ⟨n, z, rfl, f1, f2, f3⟩ := lFind_ok hj
          have rl : Rr X.K g2.F H1 (.ref a) (.list cc.xs) := ⟨a, ws, rfl, .inl k1, k2⟩
          refine ⟨a, y, dj, cc.xs, n, z, rfl, rfl, rl.dp, rj.dp, ?_, ?_, f1, f2, f3, ?_⟩
          · exact Bool.and_eq_true_iff.mpr ⟨rl.lay, decide_eq_true hdep.2⟩
          · exact Bool.and_eq_true_iff.mpr ⟨rj.lay, decide_eq_true hdep.1⟩
          · rw [Nat.zero_add] at z3
            exact ans_d s2 z3 (.int _)
        · exact z2.elim
end
end Ra


set_option Elab.async false
set_option linter.all false
set_option autoImplicit false
set_option maxRecDepth 100000
/-! which term of the evaluator stands for which expression -/
namespace Ra
open PySem PySem.Spec PyProof.Rows L2
/-- a class of errors: its name, whether it is a LookupError, what it carries -/
structure XCl where
  nm : Str
  lk : Bool
  fd : Option Str
/-- what is known of the text -/
structure Cs where
  N : List Str
  fns : List (Str × List Str × List (List Str × List Nat))
  free : List Str
  glo : List (Str × PyData)
  /-- the classes of errors -/
  xs : List XCl
def okName (x : Str) : Bool := !(x == ("__debug__" : Str)) && !(x == ("__classdict__" : Str)) && decide (x ≠ "__name__")
def visB (sc : Scope) (x : Str) : Bool := match sc.names.lookup x with
  | some .local => true
  | some .cell => true
  | some .free => true
  | _ => false
def locB (sc : Scope) (x : Str) : Bool := match sc.names.lookup x with
  | some .local => true
  | some .cell => true
  | _ => false
def gloB (sc : Scope) (x : Str) : Bool := match sc.names.lookup x with
  | some .globalImplicit => true
  | _ => false
def lclB (sc : Scope) (x : Str) : Bool := match sc.names.lookup x with
  | some .local => true
  | _ => false
/-- a built-in's name that is not taken -/
def bltB (C : Cs) (sc : Scope) (x : Str) : Bool := decide (x ∈ C.free) && gloB sc x && okName x
def cstB : PyData → Const → Bool
  | .none, .none => true
  | .bool a, .bool b => a == b
  | .int a, .int b => decide (a = b)
  | .str a, .str b => decide (a = b) && sOk a
  | _, _ => false
def bopB : Bop → Operator → Bool
  | .add, .Add => true
  | .sub, .Sub => true
  | .mul, .Mult => true
  | .fdiv, .FloorDiv => true
  | .mod, .Mod => true
  | .pow, .Pow => true
  | _, _ => false
def copB : Cop → CmpOp → Bool
  | .eq, .Eq => true
  | .ne, .NotEq => true
  | .lt, .Lt => true
  | .le, .LtE => true
  | .gt, .Gt => true
  | .ge, .GtE => true
  | .isin, .In => true
  | .notin, .NotIn => true
  | _, _ => false
def biN : Bi → Str
  | .len => "len"
  | .abs => "abs"
  | .int => "int"
  | .list => "list"
  | .tuple => "tuple"
  | .sorted => "sorted"
  | .sortedset => "sorted"
  | .lenset => "len"
  | .all => "all"
  | .any => "any"
  | .min2 => "min"
  | .max2 => "max"
def clsN : Cls → Str
  | .int => "int"
  | .bool => "bool"
  | .str => "str"
  | .list => "list"
  | .tuple => "tuple"
  | .dict => "dict"
def clsB (C : Cs) (sc : Scope) (c : Cls) : Expr → Bool
  | .Name x _ => decide (x = clsN c) && bltB C sc x
  | _ => false
def clssB (C : Cs) (sc : Scope) : List Cls → List Expr → Bool
  | [], [] => true
  | c :: cs, e :: es => clsB C sc c e && clssB C sc cs es
  | _, _ => false
mutual
def chkT (N : List Str) (sc : Scope) (fb : Str → Bool) : Tg → Expr → Bool
  | .nm i, .Name x _ => decide (N[i]? = some x) && locB sc x && (fb x || lclB sc x)
  | .tp ts, .Tuple es _ _ => chkTs N sc fb ts es
  | _, _ => false
def chkTs (N : List Str) (sc : Scope) (fb : Str → Bool) : List Tg → List Expr → Bool
  | [], [] => true
  | t :: ts, e :: es => notStar e && chkT N sc fb t e && chkTs N sc fb ts es
  | _, _ => false
end
def isTupE : Expr → Bool
  | .Tuple _ _ _ => true
  | _ => false
def cellB (scope : Scope) : Str → Bool := fun x => scope.names.lookup x == some .cell
def kwN : List Keyword → List (Option Str)
  | [] => []
  | ⟨n, _, _⟩ :: r => n :: kwN r
def kwE : List Keyword → List Expr
  | [] => []
  | ⟨_, e, _⟩ :: r => e :: kwE r
def minus1 : Expr → Bool
  | .UnaryOp .USub (.Constant (.int 1) _ _) _ => true
  | _ => false
section
variable (C : Cs)
/-- the arguments of what is walked -/
def srcE (sc : Scope) (tg : Expr) (k : Sk) (iter : Expr) : Option (List Expr) := match k with
  | .seq => some [iter]
  | .range => match iter with
    | .Call (.Name x _) [a] [] _ => if decide (x = "range") && bltB C sc x then some [a] else none
    | _ => none
  | .zip => match iter with
    | .Call (.Name x _) [a, b] [] _ => if decide (x = "zip") && bltB C sc x && isTupE tg then some [a, b] else none
    | _ => none
  | .enum => match iter with
    | .Call (.Name x _) [a] [] _ => if decide (x = "enumerate") && bltB C sc x && isTupE tg then some [a] else none
    | _ => none
  | .range2 => none
abbrev Ck := Scope → (Str → Bool) → Expr → Bool
abbrev CkL := Scope → (Str → Bool) → List Expr → Bool
def fnB (x : Str) (f n : Nat) : Bool := match C.fns[f]? with
  | some (y, ps, _) => decide (x = y) && decide (ps.length = n)
  | none => false
def kVar (i : Nat) : Ck := fun sc _ ex => match ex with
  | .Name x _ => decide (C.N[i]? = some x) && visB sc x && okName x
  | _ => false
def kCst (c : PyData) : Ck := fun _ _ ex => match ex with
  | .Constant k _ _ => cstB c k
  | _ => false
def kGlo (c : PyData) : Ck := fun sc _ ex => match ex with
  | .Name x _ => gloB sc x && okName x && (match C.glo.lookup x with | some d => beqD d c && (flatD c).isSome | none => false)
  | _ => false
def kTup (n : Nat) (f : CkL) : Ck := fun sc fb ex => match ex with
  | .Tuple xs _ _ => f sc fb xs && decide (n ≤ 1000)
  | _ => false
def kLst (n : Nat) (f : CkL) : Ck := fun sc fb ex => match ex with
  | .List xs _ => f sc fb xs && decide (n ≤ 1000)
  | _ => false
def kCall (g n : Nat) (f : CkL) : Ck := fun sc fb ex => match ex with
  | .Call (.Name x _) xs [] _ => f sc fb xs && gloB sc x && okName x && fnB C x g n
  | _ => false
def kwS : List Keyword → List Str
  | [] => []
  | ⟨n, _, _⟩ :: r => n.getD "" :: kwS r
def kCallk (g : Nat) (is : List Nat) (n : Nat) (f : CkL) : Ck := fun sc fb ex => match ex with
  | .Call (.Name x _) [] (kw :: kws) _ => f sc fb (kwE (kw :: kws)) && gloB sc x && okName x && (match C.fns[g]? with
    | some (y, ps, pms) => decide (x = y) && decide ((kwS (kw :: kws)).map some = kwN (kw :: kws)) && decide ((kwS (kw :: kws), is) ∈ pms) && decide (ps.length = n)
    | none => false)
  | _ => false
def kOp (o : Bop) (f g : Ck) : Ck := fun sc fb ex => match ex with
  | .BinOp x p y _ => bopB o p && f sc fb x && g sc fb y
  | _ => false
def kNeg (f : Ck) : Ck := fun sc fb ex => match ex with
  | .UnaryOp .USub x _ => f sc fb x
  | _ => false
def kCmp (o : Cop) (f g : Ck) : Ck := fun sc fb ex => match ex with
  | .Compare x [p] [y] _ => copB o p && !behindInMarks p y && f sc fb x && g sc fb y
  | _ => false
def kChain (o o' : Cop) (f g h : Ck) : Ck := fun sc fb ex => match ex with
  | .Compare x [p, p'] [y, z] _ => copB o p && copB o' p' && !lastMarks [p, p'] [y, z] && f sc fb x && g sc fb y && h sc fb z
  | _ => false
def kIsN (f : Ck) : Ck := fun sc fb ex => match ex with
  | .Compare x [.Is] [.Constant .none _ _] _ => f sc fb x
  | _ => false
def kIsnN (f : Ck) : Ck := fun sc fb ex => match ex with
  | .Compare x [.IsNot] [.Constant .none _ _] _ => f sc fb x
  | _ => false
def kAnd (f : CkL) : Ck := fun sc fb ex => match ex with
  | .BoolOp .And xs _ => f sc fb xs
  | _ => false
def kOr (f : CkL) : Ck := fun sc fb ex => match ex with
  | .BoolOp .Or xs _ => f sc fb xs
  | _ => false
def kNot (f : Ck) : Ck := fun sc fb ex => match ex with
  | .UnaryOp .Not x _ => f sc fb x
  | _ => false
def kIte (f g h : Ck) : Ck := fun sc fb ex => match ex with
  | .IfExp z x y _ => f sc fb z && g sc fb x && h sc fb y
  | _ => false
def kIdx (f g : Ck) : Ck := fun sc fb ex => match ex with
  | .Subscript x y _ => notSlice y && f sc fb x && g sc fb y
  | _ => false
def kSl (f : Ck) : Ck := fun sc fb ex => match ex with
  | .Subscript x (.Slice none none none _) _ => f sc fb x
  | _ => false
def kSlL (f g : Ck) : Ck := fun sc fb ex => match ex with
  | .Subscript x (.Slice (some y) none none _) _ => f sc fb x && g sc fb y
  | _ => false
def kSlU (f g : Ck) : Ck := fun sc fb ex => match ex with
  | .Subscript x (.Slice none (some y) none _) _ => f sc fb x && g sc fb y
  | _ => false
def kSlLU (f g h : Ck) : Ck := fun sc fb ex => match ex with
  | .Subscript x (.Slice (some y) (some z) none _) _ => f sc fb x && g sc fb y && h sc fb z
  | _ => false
def kRev (f : Ck) : Ck := fun sc fb ex => match ex with
  | .Subscript x (.Slice none none (some (.UnaryOp .USub (.Constant (.int i) _ _) _)) _) _ => decide (i = 1) && f sc fb x
  | _ => false
/-- which calls are served -/
def biOk : Bi → Bool
  | .sortedset => false
  | .lenset => false
  | _ => true
def kBi (b : Bi) (n : Nat) (f : CkL) : Ck := fun sc fb ex => match ex with
  | .Call (.Name x _) xs [] _ => biOk b && decide (x = biN b) && bltB C sc x && f sc fb xs && decide (n ≠ 0)
  | _ => false
/-- sorted(set(e)) -/
def kSet (f : CkL) : Ck := fun sc fb ex => match ex with
  | .Call (.Name x _) [.Call (.Name y _) [z] [] _] [] _ => decide (x = "sorted") && bltB C sc x && decide (y = "set") && bltB C sc y && f sc fb [z]
  | _ => false
def kLenset (f : CkL) : Ck := fun sc fb ex => match ex with
  | .Call (.Name x _) [.Call (.Name y _) [z] [] _] [] _ => decide (x = "len") && bltB C sc x && decide (y = "set") && bltB C sc y && f sc fb [z]
  | _ => false
def kTupS (f : CkL) : Ck := fun sc fb ex => match ex with
  | .Tuple xs _ _ => f sc fb xs
  | _ => false
def kLstS (f : CkL) : Ck := fun sc fb ex => match ex with
  | .List xs _ => f sc fb xs
  | _ => false
def kDmk (f : Ck) : Ck := fun sc fb ex => match ex with
  | .Call (.Name x _) [y] [] _ => decide (x = "dict") && bltB C sc x && notStar y && f sc fb y
  | _ => false
def kDget (f g h : Ck) : Ck := fun sc fb ex => match ex with
  | .Call (.Attribute (.Name x q) m apos) [y, z] [] cpos => decide (m = "get") && notStar y && notStar z && (apos.endLine == cpos.line) && f sc fb (.Name x q) && g sc fb y && h sc fb z
  | _ => false
def kDat (f g : Ck) : Ck := fun sc fb ex => match ex with
  | .Subscript x y _ => notSlice y && f sc fb x && g sc fb y
  | _ => false
def kDin (neg : Bool) (f g : Ck) : Ck := fun sc fb ex => match ex with
  | .Compare x [p] [y] _ => (match neg, p with | false, .In => true | true, .NotIn => true | _, _ => false) && !behindInMarks p y && f sc fb x && g sc fb y
  | _ => false
def kLidx (i : Nat) (f : Ck) : Ck := fun sc fb ex => match ex with
  | .Call (.Attribute (.Name x _) m apos) [y] [] cpos => decide (C.N[i]? = some x) && visB sc x && okName x && decide (m = "index") && notStar y && (apos.endLine == cpos.line) && f sc fb y
  | _ => false
def kIsi (cs : List Cls) (f : Ck) : Ck := fun sc fb ex => match ex with
  | .Call (.Name x _) [y, z] [] _ => decide (x = "isinstance") && bltB C sc x && notStar y && f sc fb y && (match cs with
    | [c] => clsB C sc c z
    | _ => match z with
      | .Tuple zs _ _ => clssB C sc cs zs && decide (cs.length ≤ 1000)
      | _ => false)
  | _ => false
def kPop (i : Nat) (f : Ck) : Ck := fun sc fb ex => match ex with
  | .Call (.Attribute (.Name x _) m apos) [y] [] cpos => decide (C.N[i]? = some x) && visB sc x && okName x && decide (m = "pop") && notStar y && (apos.endLine == cpos.line) && f sc fb y
  | _ => false
def kLc (own : List Nat) (t : Tg) (k : Sk) (f : CkL) (g : CkL) (h : Ck) : Ck := fun sc fb ex => match ex with
  | .ListComp el [⟨tg, iter, ifs, asy⟩] scope _ => decide (asy = 0) && (match srcE C sc tg k iter with | some xs => f sc fb xs | none => false) && notSet iter && decide (ifs.length ≤ 1) &&
      blkC C.N sc scope (own.map fun i => (C.N.getD i "", i)) && (slots t).all (fun i => decide (i ∈ own)) && chkT C.N (relS scope sc) (cellB scope) t tg && g (relS scope sc) (cellB scope) ifs && h (relS scope sc) (cellB scope) el
  | _ => false
def kDc (own : List Nat) (t : Tg) (k : Sk) (f : CkL) (g : CkL) (hk hv : Ck) : Ck := fun sc fb ex => match ex with
  | .DictComp kx vx [⟨tg, iter, ifs, asy⟩] scope _ => decide (asy = 0) && (match srcE C sc tg k iter with | some xs => f sc fb xs | none => false) && notSet iter && decide (ifs.length ≤ 1) &&
      blkC C.N sc scope (own.map fun i => (C.N.getD i "", i)) && (slots t).all (fun i => decide (i ∈ own)) && chkT C.N (relS scope sc) (cellB scope) t tg && g (relS scope sc) (cellB scope) ifs && hk (relS scope sc) (cellB scope) kx && hv (relS scope sc) (cellB scope) vx
  | _ => false
def kLc2 (own own1 : List Nat) (t : Tg) (k : Sk) (f : CkL) (g : CkL) (t1 : Tg) (k1 : Sk) (f1 : CkL) (g1 : CkL) (h : Ck) : Ck := fun sc fb ex => match ex with
  | .ListComp el [⟨tg, iter, ifs, asy⟩, ⟨tg1, iter1, ifs1, asy1⟩] scope _ => decide (asy = 0) && decide (asy1 = 0) && (match srcE C sc tg k iter with | some xs => f sc fb xs | none => false) && notSet iter && notSet iter1 && decide (ifs.length ≤ 1) && decide (ifs1.length ≤ 1) &&
      blkC C.N sc scope (own.map fun i => (C.N.getD i "", i)) && (slots t).all (fun i => decide (i ∈ own)) && (slots t1).all (fun i => decide (i ∈ own1)) && own1.all (fun i => decide (i ∈ own)) && chkT C.N (relS scope sc) (cellB scope) t tg && g (relS scope sc) (cellB scope) ifs &&
      (match srcE C (relS scope sc) tg1 k1 iter1 with | some xs => f1 (relS scope sc) (cellB scope) xs | none => false) && chkT C.N (relS scope sc) (cellB scope) t1 tg1 && g1 (relS scope sc) (cellB scope) ifs1 && h (relS scope sc) (cellB scope) el
  | _ => false
mutual
def chkE : E → Ck
  | .bad => fun _ _ _ => true
  | .var i => kVar C i
  | .cst c => kCst c
  | .glo c => kGlo C c
  | .tup es => kTup es.length (chkL es)
  | .lst es => kLst es.length (chkL es)
  | .call f es => kCall C f es.length (chkL es)
  | .callc f es => kCall C f es.length (chkL es)
  | .callk f is es => kCallk C f is es.length (chkL es)
  | .cell e => chkE e
  | .op o a b => kOp o (chkE a) (chkE b)
  | .neg a => kNeg (chkE a)
  | .cmp o a b => kCmp o (chkE a) (chkE b)
  | .chain o o' a b c => kChain o o' (chkE a) (chkE b) (chkE c)
  | .isN a => kIsN (chkE a)
  | .isnN a => kIsnN (chkE a)
  | .band es => kAnd (chkL es)
  | .bor es => kOr (chkL es)
  | .not a => kNot (chkE a)
  | .ite c a b => kIte (chkE c) (chkE a) (chkE b)
  | .idx a i => kIdx (chkE a) (chkE i)
  | .sl a => kSl (chkE a)
  | .slL a l => kSlL (chkE a) (chkE l)
  | .slU a h => kSlU (chkE a) (chkE h)
  | .slLU a l h => kSlLU (chkE a) (chkE l) (chkE h)
  | .rev a => kRev (chkE a)
  | .bi b es => match b with
    | .sortedset => kSet C (chkL es)
    | .lenset => kLenset C (chkL es)
    | b => kBi C b es.length (chkL es)
  | .isi a cs => kIsi C cs (chkE a)
  | .pop i e => kPop C i (chkE e)
  | .lc own t k src tests elt => kLc C own t k (chkL src) (chkL tests) (chkE elt)
  | .lc2 own own1 t k src tests t1 k1 src1 tests1 elt => kLc2 C own own1 t k (chkL src) (chkL tests) t1 k1 (chkL src1) (chkL tests1) (chkE elt)
  | .tupS bs es => kTupS (chkLS bs es)
  | .lstS bs es => kLstS (chkLS bs es)
  | .dc own t k src tests ke ve => kDc C own t k (chkL src) (chkL tests) (chkE ke) (chkE ve)
  | .dmk e => kDmk C (chkE e)
  | .dget d k x => kDget (chkE d) (chkE k) (chkE x)
  | .dat d k => kDat (chkE d) (chkE k)
  | .din neg k d => kDin neg (chkE k) (chkE d)
  | .lidx i e => kLidx C i (chkE e)
def chkL : List E → CkL
  | [] => fun _ _ xs => xs.isEmpty
  | e :: es => fun sc fb xs => match xs with
    | [] => false
    | x :: xs => notStar x && chkE e sc fb x && chkL es sc fb xs
def chkLS : List Bool → List E → CkL
  | [], [] => fun _ _ xs => xs.isEmpty
  | false :: bs, e :: es => fun sc fb xs => match xs with
    | x :: r => notStar x && chkE e sc fb x && chkLS bs es sc fb r
    | [] => false
  | true :: bs, e :: es => fun sc fb xs => match xs with
    | .Starred x _ :: r => chkE e sc fb x && chkLS bs es sc fb r
    | _ => false
  | _, _ => fun _ _ _ => false
end
end
end Ra


set_option Elab.async false
set_option linter.all false
set_option autoImplicit false
set_option maxRecDepth 100000
/-! isinstance, list, tuple -/
namespace Ra
open PySem PySem.Spec PyProof.Rows L2
def tyN : PyData → String
  | .none => "NoneType"
  | .bool _ => "bool"
  | .int _ => "int"
  | .str _ => "str"
  | .list _ => "list"
  | .tuple _ => "tuple"
  | .dict _ => "dict"
def clsS : Cls → String
  | .int => "int"
  | .bool => "bool"
  | .str => "str"
  | .list => "list"
  | .tuple => "tuple"
  | .dict => "dict"
theorem kit_isi {K : PySem.W.Frag} {F : Addr → Prop} {H : Hp} {x : V} {d : PyData} (h : Rr K F H x d) (c : Cls) : kitB (tyN d) (clsS c) = some (isi d c) := by
  cases d with
  | dict _ => cases h
  | none => cases c <;> (dsimp only [tyN, clsS, isi]; decide +kernel)
  | bool _ => cases c <;> (dsimp only [tyN, clsS, isi]; decide +kernel)
  | int _ => cases c <;> (dsimp only [tyN, clsS, isi]; decide +kernel)
  | str _ => cases c <;> (dsimp only [tyN, clsS, isi]; decide +kernel)
  | list _ => cases c <;> (dsimp only [tyN, clsS, isi]; decide +kernel)
  | tuple _ => cases c <;> (dsimp only [tyN, clsS, isi]; decide +kernel)
theorem ty_of {K : PySem.W.Frag} {F : Addr → Prop} {H : Hp} {x : V} {d : PyData} (h : Rr K F H x d) : TyX K H x (.type (tyN d)) := by
  cases d with
  | none => rw [h.none]; exact .base .non
  | bool b => rw [h.bool]; exact .base (.bl b)
  | int b => rw [h.int]; exact .base (.int b)
  | str b => rw [h.str]; exact .base (.str b)
  | list b =>
    obtain ⟨a, xs, rfl, h1, _⟩ := h.lst
    rcases h1 with h1 | ⟨o, h1⟩
    · exact .base (.lst h1)
    · exact .base (.frz h1)
  | tuple b =>
    obtain ⟨a, xs, rfl, h1, _⟩ := h.tup
    rcases h1 with (h1 | ⟨o, h1⟩) | ⟨o, its, n, h1, h2, _⟩
    · exact .base (.tup h1)
    · exact .fTuple h1
    · exact .kTuple h1 h2
  | dict _ => cases h
theorem boot_cls : ∀ c : Cls, bootBuiltins (clsN c) = some (.type (clsS c)) := by
  intro c
  cases c <;> (dsimp only [clsN, clsS]; decide +kernel)
section
variable {X : Cx} {e : Expr} {p : P} {pos : Pos}
theorem okName_ok {x : Str} (h : okName x = true) : (x == ("__debug__" : Str)) = false ∧ (x == ("__classdict__" : Str)) = false ∧ x ≠ "__name__" := by
  unfold okName at h
  simp only [Bool.and_eq_true, Bool.not_eq_true', decide_eq_true_eq] at h
  exact ⟨h.1.1, h.1.2, h.2⟩
theorem pe_clsR {c : Cls} {x : Str} {q : Pos} (hx : x = clsN c) (hg : Gl X x) (hm : X.mg x = none) (ok : okName x = true) : PE X (.Name x q) (tC (.ty (clsS c))) := by
  obtain ⟨o1, o2, o3⟩ := okName_ok ok
  refine pe_bltn hg hm (u := .type (clsS c)) ?_ rfl o3 o1
  rw [hx]; exact boot_cls c
theorem pe_isi1R {c : Cls} {x y : Str} {q q2 : Pos} (hx : x = "isinstance") (hg : Gl X x) (hm : X.mg x = none) (ok : okName x = true) (ha : PE X e (tE X.K p.v)) (ns : notStar e = true) (hy : y = clsN c) (hgy : Gl X y) (hmy : X.mg y = none) (oky : okName y = true) :
    PE X (.Call (.Name x q) [e, .Name y q2] [] pos) (tE X.K (c1 p fun x m => boolR ([c].any (isi x)) m)) := by
  obtain ⟨o1, o2, o3⟩ := okName_ok ok
  refine PE.weak (pe_callB call_isi hg hm (by rw [hx]; decide +kernel) (pa_cons ha (pa_cons (pe_clsR hy hgy hmy oky) pa_nil) (star1 ns _ _)) o3 o1 (star1 ns _ _) rfl) fun σ H Q h => ?_
  obtain ⟨env, m, g, hs, hm, hz⟩ := c1_ok h
  refine ⟨env, m, g, hs, hm, hz.mono fun v m1 g1 H1 e1 s1 z1 x rx => ?_⟩
  obtain ⟨m2, g2, d, s2, r2, z2⟩ := z1 x rx
  refine ⟨x, .ty (clsS c), _, _, _, rfl, .ty _, ty_of r2, kit_ty (kit_isi r2 c), ?_⟩
  have z3 : Rz X.K (boolR (isi d c) m2) g2 H1 (Ans X.K Q) := by
    have e : [c].any (isi d) = isi d c := by simp
    rw [← e]; exact z2
  exact ans_d s2 z3 (.bl _)
/-- the classes of a tuple -/
inductive ClsE (X : Cx) : List Cls → List Expr → Prop
  | nil : ClsE X [] []
  | cons {c : Cls} {cs : List Cls} {y : Str} {q : Pos} {es : List Expr} : y = clsN c → Gl X y → X.mg y = none → okName y = true → ClsE X cs es → ClsE X (c :: cs) (.Name y q :: es)
theorem pa_cls : ∀ {cs : List Cls} {es : List Expr}, ClsE X cs es → PA X es (fun _ H Q => Q (cs.map fun c => V.ty (clsS c)) H)
  | _, _, .nil => pa_nil
  | _, _, .cons a b c d t => PA.weak (pa_cons (pe_clsR a b c d) (pa_cls t)) fun _ _ _ h => h
theorem cls_paired : ∀ cs : List Cls, Paired ClsV (cs.map fun c => V.ty (clsS c)) (cs.map fun c => Value.type (clsS c))
  | [] => .nil
  | c :: cs => .cons (.ty _) (cls_paired cs)
theorem kit_any {K : PySem.W.Frag} {F : Addr → Prop} {H : Hp} {x : V} {d : PyData} (h : Rr K F H x d) : ∀ cs : List Cls, PySem.W.kitAny K (.type (tyN d)) (cs.map fun c => Value.type (clsS c)) = some (cs.any (isi d))
  | [] => kitAny_nil
  | c :: cs => kitAny_cons (kit_ty (kit_isi h c)) (fun hb => by
      rw [kit_any h cs]
      simp [hb]) fun hb => by simp [hb]
theorem pe_isiTR {cs : List Cls} {x : Str} {q q2 : Pos} {k : Nat} {es : List Expr} (hx : x = "isinstance") (hg : Gl X x) (hm : X.mg x = none) (ok : okName x = true) (ha : PE X e (tE X.K p.v)) (ns : notStar e = true) (hc : ClsE X cs es) (hl : cs.length ≤ 1000) :
    PE X (.Call (.Name x q) [e, .Tuple es k q2] [] pos) (tE X.K (c1 p fun x m => boolR (cs.any (isi x)) m)) := by
  obtain ⟨o1, o2, o3⟩ := okName_ok ok
  refine PE.weak (pe_callB call_isiT hg hm (by rw [hx]; decide +kernel) (pa_cons ha (pa_cons (pe_tup (pa_cls hc)) pa_nil) (star1 ns _ _)) o3 o1 (star1 ns _ _) rfl) fun σ H Q h => ?_
  obtain ⟨env, m, g, hs, hm, hz⟩ := c1_ok h
  refine ⟨env, m, g, hs, hm, hz.mono fun v m1 g1 H1 e1 s1 z1 x rx => ?_⟩
  obtain ⟨m2, g2, d, s2, r2, z2⟩ := z1 x rx
  have hlen : (cs.map fun c => V.ty (clsS c)).length ≤ sizeLine := by rw [List.length_map, sizeLine_eq]; omega
  refine ⟨hlen, fun p hp => ?_⟩
  have e3 := ext_new (o := .tup (cs.map fun c => V.ty (clsS c))) s2 hp
  have s3 := sim_new (o := .tup (cs.map fun c => V.ty (clsS c))) s2 hp hlen
  have r3 : Rr X.K g2.F (upd H1 p (.tup (cs.map fun c => V.ty (clsS c)))) x d := by
    cases d with
    | list ds =>
      obtain ⟨a, ws, rfl, h1, h2⟩ := r2.lst
      refine ⟨a, ws, rfl, ?_, RpAll.ext e3 _ h2⟩
      rcases h1 with h1 | ⟨o, h1⟩
      · exact .inl (by rw [upd_ne (ne_of_none h1 hp)]; exact h1)
      · exact .inr ⟨o, by rw [upd_ne (ne_of_none h1 hp)]; exact h1⟩
    | none => exact Rp.ext e3 _ r2
    | bool _ => exact Rp.ext e3 _ r2
    | int _ => exact Rp.ext e3 _ r2
    | str _ => exact Rp.ext e3 _ r2
    | tuple _ => exact Rp.ext e3 _ r2
    | dict _ => cases r2
  exact ⟨x, p, _, _, _, _, rfl, upd_same, cls_paired cs, ty_of r3, kit_any r3 cs, ans_d s3 (z2.ext e3) (.bl _)⟩
end
end Ra


set_option Elab.async false
set_option linter.all false
set_option autoImplicit false
set_option maxRecDepth 100000
/-! list(x), tuple(x) -/
namespace Ra
open PySem PySem.Spec PyProof.Rows L2
section
variable {prog : Program} {w : World} {A : Around} {E : Value → Shared → Prop} {s : Shared}
/-- a text's signs go to the end of the list at S -/
theorem text_into {R : Result → Shared → Prop} (hh : A.handled = none) (x : Str) (t : Tok) (S : Addr) (c0 : Nat) (hS : s.heap.get? S = some { cls := .type "list", data := .seq #[] c0 }) (hn : x.cps.size ≤ sizeLine)
    (fin : ∀ s' acc c', (∀ b o, b ≠ S → s.heap.get? b = some o → s'.heap.get? b = some o) → s'.gens = s.gens → s'.drawn = s.drawn → s'.os = s.os → s'.heap.get? S = some { cls := .type "list", dict := none, data := .seq acc c', slots := #[] } → ItemsOf (SignAt x) acc x.cps.size → R (.ok (.ret .none)) s') :
    wpAny (model prog w) A.in1 (Builtin.List.listExtendWith (.ref S) (.str x t) .none)
      (fun f s' => match f with | .done g => R (.ok g) s' | .again c' => c'.quiet = true ∧ codeAny (model prog w) A c' R s') (fun e s' => R (.error e) s') s := by
  unfold Builtin.List.listExtendWith
  refine wpAny_bind (wpAny_typeOf (T := "str") (v := .str x t) rfl ?_)
  have a1 : Builtin.List.listSameRef (.ref S) (.str x t) = false := rfl
  have a2 : (Value.type "str" == Value.type "list") = false := by decide
  have a3 : (Value.type "str" == Value.type "tuple") = false := by decide
  simp only [a1, a2, a3, Bool.or_false, Bool.false_eq_true, if_false]
  refine wpAny_bind (wpAny_pyIter_str fun ob St W st0 => ?_)
  refine wpAny_bind (wpAny_holding ?_)
  unfold Builtin.List.listLengthHint
  refine wpAny_bind (wpAny_specialOf (T := "str") (v := .str x t) rfl PySem.F.str_len ?_)
  wp_delta
  refine wpAny_bind (wpAny_isInstance (T := "str") (v := .str x t) (b := true) rfl (by rw [isSubtype_type]; kernel_rfl) ?_)
  show wpAny _ A.in1 (typeOf (Value.str x t) >>= _) _ _ _
  refine wpAny_bind (wpAny_typeOf (T := "str") (v := .str x t) rfl (wpAny_pure ?_))
  rw [if_neg (by decide)]
  have lt : S < s.heap.objs.size := Heap.lt_size hS
  have hSf : S ∉ [s.heap.objs.size] := fun q => absurd lt (by rw [List.mem_singleton.mp q]; exact Nat.lt_irrefl _)
  have hS1 : (s.heap.push ob).get? S = some { cls := .type "list", data := .seq #[] c0 } := Heap.get?_push_of_some _ hS
  refine wpAny_pure ⟨plainId_quiet PySem.F.plain_extend_loop _, codeAny_extend_loopS (W A.in1 hh).toS hn S hSf _ x.cps.size 0 _ _ _ rfl (Nat.zero_le _) st0 hS1 (ItemsOf.nil _) fun s' acc c' hm hS' hacc => ?_⟩
  refine fin s' acc c' (fun b o hb e => hm.heap b o (fun q => ?_) (Heap.get?_push_of_some _ e)) hm.gens hm.drawn hm.os hS' hacc
  rcases List.mem_cons.mp q with q | q
  · exact hb q
  · exact absurd (Heap.lt_size e) (by rw [List.mem_singleton.mp q]; exact Nat.lt_irrefl _)
theorem call_list_text {Q : Value → Shared → Prop} (hh : A.handled = none) (x : Str) (t : Tok) (hn : x.cps.size ≤ sizeLine)
    (fin : ∀ s' acc c', (∀ b o, s.heap.get? b = some o → s'.heap.get? b = some o) → s'.gens = s.gens → s'.drawn = s.drawn → s'.os = s.os → s'.heap.get? s.heap.objs.size = some { cls := .type "list", dict := none, data := .seq acc c', slots := #[] } → ItemsOf (SignAt x) acc x.cps.size → Q (.ref s.heap.objs.size) s') :
    wpAny (model prog w) A (call (.type "list") [.str x t]) Q E s := by
  refine callType_codes (Q₁ := fun o1 s1 => o1 = .ref s.heap.objs.size ∧ s1 = { s with heap := s.heap.push { cls := .type "list", data := .seq #[] } }) PySem.F.called_list (PySem.F.typeCall_list_1 _) PySem.F.entry_list_init (code_list_new _ ⟨rfl, rfl⟩) fun o1 s1 q1 => ?_
  obtain ⟨rfl, rfl⟩ := q1
  have new : (s.heap.push { cls := .type "list", data := .seq #[] }).get? s.heap.objs.size = some { cls := .type "list", data := .seq #[] } := Heap.get?_push_size _ rfl
  refine ⟨⟨_, new, rfl⟩, PySem.F.args_list_init_2 _ _, ?_⟩
  show wpAny _ _ (do let old ← Builtin.List.listItems (.ref s.heap.objs.size); Builtin.List.listUpdate (.ref s.heap.objs.size) (fun _ => #[]); letGo old.toList.reverse; Builtin.List.listExtendWith (.ref s.heap.objs.size) (.str x t) .none) _ _ _
  refine wpAny_bind ?_
  unfold Builtin.List.listItems
  refine wpAny_bind (wpAny_seqItems new rfl (wpAny_pure ?_))
  refine wpAny_bind (wpAny_updateSeq new rfl ?_)
  have new2 := Heap.get?_update_self (Obj.mapSeq (fun _ => (#[] : Array Value))) new rfl
  refine wpAny_bind (wpAny_letGo ?_)
  refine text_into (A := A.in1) hh x t _ _ new2 hn fun s' acc c' hk hg hd ho hS' hacc => ?_
  exact ⟨rfl, fin s' acc c' (fun b o e => hk b o (Nat.ne_of_lt (Heap.lt_size e)) ((Heap.get?_update_other _ _ (Nat.ne_of_gt (Heap.lt_size e))).trans (Heap.get?_push_of_some _ e))) hg hd ho hS' hacc⟩
end
section
variable {X : Cx}
theorem signs_vals {x : Str} {acc : Array Value} (h : ItemsOf (SignAt x) acc x.cps.size) : Vals (x.cps.toList.map fun c => V.str ⟨#[c]⟩) acc.toList := by
  refine vals_of_at (by simp [h.1]) fun j y u e1 e2 => ?_
  rw [Array.getElem?_toList] at e2
  obtain ⟨c, tk, hc, rfl⟩ := h.2 j u e2
  rw [List.getElem?_map, Array.getElem?_toList, hc] at e1
  cases e1
  exact ⟨tk, rfl⟩
theorem signs_rp {K : PySem.W.Frag} {F : Addr → Prop} {H : Hp} {z : Str} (hz : sOk z = true) : RpAll K F H (z.cps.toList.map fun c => V.str ⟨#[c]⟩) (signs z) := by
  have key : ∀ l : List Nat, (∀ c ∈ l, c ∈ z.cps.toList) → RpAll K F H (l.map fun c => V.str ⟨#[c]⟩) (l.map one) := by
    intro l
    induction l with
    | nil => intro _; exact .nil
    | cons c l ih => exact fun h => .cons (.str _ (sok_one hz (h c List.mem_cons_self))) (ih fun c' h' => h c' (List.mem_cons_of_mem _ h'))
  exact key _ fun _ h => h
theorem items_ok {K : PySem.W.Frag} {F : Addr → Prop} {H : Hp} {x : V} {d : PyData} {is : List PyData} (h : Rr K F H x d) (e : items d = some is) :
    (∃ a xs, x = .ref a ∧ Rd H a (.lst xs) ∧ RpAll K F H xs is) ∨ (∃ a xs, x = .ref a ∧ SqT K H a xs ∧ RpAll K F H xs is ∧ d = .tuple is) ∨ ∃ z, x = .str z ∧ sOk z = true ∧ is = signs z := by
  cases d with
  | list ds => cases e; exact .inl h.lst
  | tuple ds =>
    cases e
    obtain ⟨a, xs, h1, h2, h3⟩ := h.tup
    exact .inr (.inl ⟨a, xs, h1, h2, h3, rfl⟩)
  | str z => cases e; exact .inr (.inr ⟨z, h.str, h.sok, rfl⟩)
  | none => cases e
  | bool _ => cases e
  | int _ => cases e
  | dict _ => cases e
theorem cr_list' (hc : X.calm = true) : CallR X (.type "list") (rBi X.K (bi .list)) := by
  intro pins s σ H vs us Q I r h
  obtain ⟨m, g, ds, S, hx, hz0⟩ := h
  obtain ⟨w, hw, hz⟩ := Rz.opt hz0
  clear hz0
  replace hw : listD ds = some w := hw
  unfold listD at hw
  split at hw
  · obtain ⟨is, hi, e⟩ := Option.map_eq_some_iff.mp hw
    subst e
    obtain ⟨x, rfl, h⟩ := hx.one
    rcases items_ok h hi with ⟨a, xs, rfl, h1, h2⟩ | ⟨a, xs, rfl, h1, h2, _⟩ | ⟨z, rfl, h1, rfl⟩
    · exact call_list_of pins s σ H _ us Q I r ⟨a, xs, rfl, .inl (.inl h1), fun l hl => ans_l S hz h2 (rd_len S h1) hl⟩
    · exact call_list_of pins s σ H _ us Q I r ⟨a, xs, rfl, .inr h1, fun l hl => ans_l S hz h2 (sq_len S h1) hl⟩
    · obtain ⟨u, rfl, t, rfl⟩ := vals1 r
      have hl := sok_len h1
      refine call_list_text (I.ok.hd hc) z t hl fun s' acc c' hk hg hd ho hS' hacc => ?_
      obtain ⟨h', g', d', t', o'⟩ := s'
      obtain rfl : g' = s.gens := hg
      obtain rfl : d' = s.drawn := hd
      obtain rfl : o' = s.os := ho
      have hv := signs_vals hacc
      have hlen : (z.cps.toList.map fun c => V.str ⟨#[c]⟩).length ≤ sizeLine := by
        rw [List.length_map, Array.length_toList]; exact hl
      refine ⟨.ref _, upd H s.heap.objs.size (.lst (z.cps.toList.map fun c => V.str ⟨#[c]⟩)), I.laid (t' := t') hk (Nat.le_refl _) ⟨hlen, acc.toList, c', hv, ?_⟩, rfl, ans_l S hz (signs_rp h1) hlen I.fresh⟩
      rw [Array.toArray_toList]; exact hS'
  · cases hw
theorem cr_tuple' (hc : X.calm = true) : CallR X (.type "tuple") (rBi X.K (bi .tuple)) := by
  intro pins s σ H vs us Q I r h
  obtain ⟨m, g, ds, S, hx, hz0⟩ := h
  obtain ⟨w, hw, hz⟩ := Rz.opt hz0
  clear hz0
  replace hw : tupleD ds = some w := hw
  unfold tupleD at hw
  split at hw
  · obtain ⟨is, hi, e⟩ := Option.map_eq_some_iff.mp hw
    subst e
    obtain ⟨x, rfl, h⟩ := hx.one
    rcases items_ok h hi with ⟨a, xs, rfl, h1, h2⟩ | ⟨a, xs, rfl, h1, h2, _⟩ | ⟨z, rfl, h1, rfl⟩
    · exact call_tuple_of pins s σ H _ us Q I r ⟨a, xs, rfl, .inl ⟨.inl h1, fun l hl => ans_t S hz h2 (rd_len S h1) hl⟩⟩
    · exact call_tuple_of pins s σ H _ us Q I r ⟨a, xs, rfl, .inr ⟨h1, ans_d S hz (.tup h1 h2)⟩⟩
    · obtain ⟨u, rfl, t, rfl⟩ := vals1 r
      have hl := sok_len h1
      refine call_tuple_str (I.ok.hd hc) z t (fun h' tk acc hk hacc => ?_) hl
      have hv := signs_vals hacc
      have hlen : (z.cps.toList.map fun c => V.str ⟨#[c]⟩).length ≤ sizeLine := by
        rw [List.length_map, Array.length_toList]; exact hl
      have I1 : Inv X pins σ H { s with heap := h', toks := tk } := I.kept (t' := tk) hk
      refine ⟨.ref _, upd H h'.objs.size (.tup (z.cps.toList.map fun c => V.str ⟨#[c]⟩)), I1.laid (t' := tk) (fun b o e => Heap.get?_push_of_some _ e) (Nat.le_refl _) ⟨hlen, acc.toList, hv, ?_⟩, rfl, ans_t S hz (signs_rp h1) hlen (I1.hok.fresh (Nat.le_refl _))⟩
      rw [Array.toArray_toList]; exact IsTup.new h' acc
  · cases hw
end
end Ra


set_option Elab.async false
set_option linter.all false
set_option autoImplicit false
set_option maxRecDepth 100000
/-! x[::-1] -/
namespace Ra
open PySem PySem.Spec PyProof.Rows L2
theorem back_adjust (n : Nat) : Builtin.Slice.sliceAdjust none none (-1) (n : Int) = ((n : Int) - 1, -1) := by
  unfold Builtin.Slice.sliceAdjust
  simp
theorem back_places (n : Nat) : Builtin.Slice.slicePlaces ((n : Int) - 1) (-1) (-1) = n := by
  unfold Builtin.Slice.slicePlaces
  simp
  omega
theorem back_pick (xs : Array Value) : ((List.range xs.size).filterMap fun (k : Nat) => xs[(((xs.size : Int) - 1) + (k : Int) * (-1)).toNat]?).toArray = xs.toList.reverse.toArray := by
  congr 1
  apply List.ext_getElem?
  intro i
  have all : ∀ (l : List Nat), (∀ k ∈ l, k < xs.size) → l.filterMap (fun (k : Nat) => xs[(((xs.size : Int) - 1) + (k : Int) * (-1)).toNat]?) = l.map fun k => xs.getD (xs.size - 1 - k) .none := by
    intro l
    induction l with
    | nil => intro _; rfl
    | cons k l ih =>
      intro h
      have hk := h k List.mem_cons_self
      have e1 : (((xs.size : Int) - 1) + (k : Int) * (-1)).toNat = xs.size - 1 - k := by omega
      have hlt : xs.size - 1 - k < xs.size := by omega
      rw [List.filterMap_cons, e1, Array.getElem?_eq_getElem hlt, List.map_cons, ih fun k' h' => h k' (List.mem_cons_of_mem _ h')]
      simp [Array.getD, hlt]
  rw [all _ fun k h => List.mem_range.mp h]
  by_cases hi : i < xs.size
  · rw [List.getElem?_map, List.getElem?_range hi, List.getElem?_reverse (by simpa using hi)]
    have hlt : xs.size - 1 - i < xs.size := by omega
    simp [Array.getD, hlt]
  · rw [List.getElem?_eq_none (by simp; omega), List.getElem?_eq_none (by simp; omega)]
section
variable {prog : Program} {w : World} {A : Around} {E : Value → Shared → Prop} {s : Shared}
theorem part_at {v : Value} {o : Option Int} {Q : Option Int → Shared → Prop} (p : IsPart v o) (h : Q o s) : wpAny (model prog w) A (Builtin.Slice.slicePartIndex v) Q E s := HT.slicePart_ p h
theorem back_applied {sl : Addr} {vl vu vs : Value} {n : Nat} {Q : Int × Int × Nat → Shared → Prop} (hs : s.heap.IsSliceOf sl vl vu vs) (pl : IsPart vl none) (pu : IsPart vu none) (pz : IsPart vs (some (-1))) (h : Q ((n : Int) - 1, -1, n) s) :
    wpAny (model prog w) A (Builtin.Slice.sliceApplied (.ref sl) (pure (n : Int))) Q E s := by
  obtain ⟨ob, hob, hcb, hdb⟩ := id hs
  unfold Builtin.Slice.sliceApplied Builtin.Slice.sliceFields
  refine wpAny_bind (wpAny_bind (wpAny_field hob hdb (x := vl) rfl (wpAny_bind (wpAny_field hob hdb (x := vu) rfl (wpAny_bind (wpAny_field hob hdb (x := vs) rfl (wpAny_pure ?_)))))))
  refine wpAny_bind (part_at pz ?_)
  show wpAny _ _ (if ((-1 : Int) == 0) = true then _ else _) _ _ s
  rw [if_neg (by decide)]
  refine wpAny_bind (part_at pl (wpAny_bind (part_at pu (wpAny_bind (wpAny_pure ?_)))))
  show wpAny _ _ (match Builtin.Slice.sliceAdjust none none (-1) (n : Int) with | (lo, hi) => pure (lo, (-1 : Int), Builtin.Slice.slicePlaces lo hi (-1))) _ _ s
  rw [back_adjust n]
  show wpAny _ _ (pure ((n : Int) - 1, (-1 : Int), Builtin.Slice.slicePlaces ((n : Int) - 1) (-1) (-1))) _ _ s
  rw [back_places]
  exact wpAny_pure h
theorem tuple_back {t sl : Addr} {its : Array Value} {vl vu vs : Value} {Q : Value → Shared → Prop} (ht : IsTup s.heap t its) (hs : s.heap.IsSliceOf sl vl vu vs) (pl : IsPart vl none) (pu : IsPart vu none) (pz : IsPart vs (some (-1)))
    (h : Q (.ref s.heap.objs.size) { s with heap := s.heap.push { cls := .type "tuple", data := .seq its.toList.reverse.toArray } }) (hz : its.size ≤ sizeLine) : wpAny (model prog w) A (getItem (.ref t) (.ref sl)) Q E s := by
  have hok : sizeOk (.seq its.toList.reverse.toArray) := by
    show its.toList.reverse.toArray.size ≤ sizeLine
    rw [List.size_toArray, List.length_reverse, Array.length_toList]
    exact hz
  obtain ⟨ob, hob, hcb, hdb⟩ := id hs
  have tys : s.TypeIs (.ref sl) "slice" := ⟨ob, hob, hcb⟩
  unfold getItem
  try with_reducible refine wpAny_holding ?_
  first | refine wpAny_bind (wpAny_pure ?_) | skip
  refine wpAny_bind (wpAny_sequenceKey ht.typeIs (by decide) ?_)
  refine wpAny_bind (wpAny_callSpecial?_slot (name := Str.ofString "__getitem__") ht.typeIs PyProof.Rows.slot_tuple_getitem (wpAny_call_entry PyProof.Rows.slot_tuple_getitem ht.typeIs PyProof.Rows.entry_tuple_getitem ?_ (PyProof.Rows.args_tuple_getitem _ _)))
  show wpAny _ _ (Builtin.Tuple.tupleItemsOf (.ref t) >>= _) _ _ s
  refine wpAny_bind (PyProof.Rows.tupleItemsOf_ ht ?_)
  refine wpAny_bind (wpAny_typeOf tys ?_)
  rw [if_pos (by decide)]
  refine wpAny_bind (back_applied (n := its.size) hs pl pu pz ?_)
  have no : ¬ (((((its.size : Int) - 1) == 0) && (-1 : Int) == 1 && its.size == its.size) = true) := by simp
  show wpAny _ _ (if ((((its.size : Int) - 1) == 0) && (-1 : Int) == 1 && its.size == its.size) = true then _ else _) _ _ s
  rw [if_neg no, back_pick]
  first
    | exact wpAny_bind (m := Builtin.Tuple.tupleExact _) (wpAny_newObj_type (wpAny_pure ⟨_, rfl, wpAny_pure h⟩) hok)
    | exact wpAny_bind (m := Builtin.Tuple.tupleExact _) (wpAny_newObj_type (wpAny_bind (wpAny_pure (wpAny_pure ⟨_, rfl, wpAny_pure h⟩))) hok)
    | exact wpAny_bind (wpAny_bind (m := Builtin.Tuple.tupleExact _) (wpAny_newObj_type (wpAny_pure (wpAny_pure ⟨_, rfl, wpAny_pure h⟩)) hok))
    | exact wpAny_bind (wpAny_bind (m := Builtin.Tuple.tupleExact _) (wpAny_newObj_type (wpAny_pure ⟨_, rfl, wpAny_pure h⟩) hok))
end
section
variable {X : Cx} {e : Expr} {p : P} {pos : Pos}
theorem pe_revR {k : Nat} {i : Int} {p1 p2 p3 : Pos} (hi : i = 1) (he : PE X e (tE X.K p.v)) :
    PE X (.Subscript e (.Slice none none (some (.UnaryOp .USub (.Constant (.int i) k p1) p2)) p3) pos) (tE X.K (c1 p fun x m => optR (revd x) m)) := by
  subst hi
  refine ⟨fun pins s σ H Q I h => ?_⟩
  have h := c1_ok h
  refine Subscript_ (thn (he.run pins s σ H _ I h) fun v s1 ⟨x, H1, I1, r1, q1⟩ => ?_)
  obtain ⟨m, g, d, S, rd_, hz⟩ := q1
  obtain ⟨wv, hw, hz⟩ := Rz.opt hz
  have step : PO X (some (.UnaryOp .USub (.Constant (.int 1) k p1) p2)) (tPart (tUn (rU fun i => .int (-i)) (tC (.int 1)))) := po_some (pe_un un_neg pe_int)
  refine wpAny_Slice (thn (po_none.run pins s1 σ H1 (fun o H2 => o = none ∧ H2 = H1) I1 ⟨rfl, rfl⟩) fun vl s2 ⟨l, H2, I2, pl, el, e2⟩ => ?_)
  subst el e2
  refine thn (po_none.run pins s2 σ H2 (fun o H3 => o = none ∧ H3 = H2) I2 ⟨rfl, rfl⟩) fun vu s3 ⟨u, H3, I3, pu, eu, e3⟩ => ?_
  subst eu e3
  refine thn (step.run pins s3 σ H3 (fun o H4 => o = some (-1) ∧ H4 = H3) I3 ⟨1, rfl, -1, rfl, rfl, rfl⟩) fun vz s4 ⟨o, H4, I4, pz, eo, e4⟩ => ?_
  subst eo e4
  have I5 : Inv X pins σ H4 { s4 with heap := s4.heap.push { cls := .type "slice", data := .fields #[vl, vu, vz] } } := I4.kept (t' := s4.toks) fun b ob q => Heap.get?_push_of_some _ q
  unfold revd at hw
  split at hw
  · cases hw
    obtain ⟨a, xs, rfl, hx, h2⟩ := rd_.lst
    cases r1
    obtain ⟨its, r, ht, hlen⟩ := I5.list (.inl hx)
    show wpAny (model X.prog X.w) X.A (subscriptTail e (.Slice none none (some (.UnaryOp .USub (.Constant (.int 1) k p1) p2)) p3) (.ref a) (.ref s4.heap.objs.size)) (EP X pins σ Q) X.xe _
    refine tail_any (ops := [.ref a, .ref s4.heap.objs.size]) ht.isList.typeIs (PySem.slot_list_getitem.lookup) ?_ (by with_unfolding_all rfl)
    refine wpAny_getItem_list_slice ht.isList (Heap.IsSliceOf.new _ vl vu vz) pl pu pz (by decide) ?_ (by rw [List.size_toArray, ← r.length]; exact hlen)
    rw [PySem.W.krv_pick]
    have hl2 : xs.reverse.length ≤ sizeLine := by rw [List.length_reverse]; exact hlen
    exact ⟨.ref _, _, I5.laid (t' := s4.toks) (o := .lst xs.reverse) (fun b ob q => Heap.get?_push_of_some _ q) (Nat.le_refl _) ⟨hl2, _, 0, r.reverse, Heap.get?_push_size _ rfl⟩, rfl, ans_l S hz h2.rev hl2 (I5.hok.fresh (Nat.le_refl _))⟩
  · cases hw
    obtain ⟨a, xs, rfl, hx, h2⟩ := rd_.tup
    cases r1
    obtain ⟨its, r, ht, hlen⟩ := I5.tuple hx
    show wpAny (model X.prog X.w) X.A (subscriptTail e (.Slice none none (some (.UnaryOp .USub (.Constant (.int 1) k p1) p2)) p3) (.ref a) (.ref s4.heap.objs.size)) (EP X pins σ Q) X.xe _
    refine tail_any (ops := [.ref a, .ref s4.heap.objs.size]) ht.typeIs (PyProof.Rows.slot_tuple_getitem.lookup) ?_ (by with_unfolding_all rfl)
    refine tuple_back ht (Heap.IsSliceOf.new _ vl vu vz) pl pu pz ?_ (by rw [List.size_toArray, ← r.length]; exact hlen)
    have hl2 : xs.reverse.length ≤ sizeLine := by rw [List.length_reverse]; exact hlen
    exact ⟨.ref _, _, I5.laid (t' := s4.toks) (o := .tup xs.reverse) (fun b ob q => Heap.get?_push_of_some _ q) (Nat.le_refl _) ⟨hl2, _, r.reverse, IsTup.new _ _⟩, rfl, ans_t S hz h2.rev hl2 (I5.hok.fresh (Nat.le_refl _))⟩
  · cases hw
end
end Ra


set_option Elab.async false
set_option linter.all false
set_option autoImplicit false
set_option maxRecDepth 100000
/-! set(xs), by what one item more does -/
namespace Ra
open PySem PySem.Spec PyProof.Rows L2
/-- a set as it is made -/
abbrev newSet (w : World) : Obj := { cls := .type "set", dict := none, data := .set #[] 0 (.fresh 0 0 (!w.params.followText "set-order")) }
section
variable {P : Program} {w : World} {A : Around} {E : Value → Shared → Prop} {s : Shared} {a : Addr}
/-- the loop of set.update, J what is known behind so many items -/
theorem setG_loop {I : Addr} {fp wr : List Addr} {G : Array GenState → Array GenState → Prop} {n : Nat} {Pv : Nat → Value → Prop} {St : Nat → Shared → Prop} {R : Result → Shared → Prop} (W : WalksS P w A.in1 I fp wr G n Pv St) (S : Addr) (hSf : S ∉ fp) (J : Nat → Heap → Prop)
    (jk : ∀ i h h', J i h → (∀ b o, b ∉ wr → h.get? b = some o → h'.get? b = some o) → J i h')
    (js : ∀ i v (s : Shared) (E' : Value → Shared → Prop) (Q : Shared → Prop), Pv i v → J i s.heap → (∀ h' tk, s.toks ≤ tk → Heap.SameBut S s.heap h' → J (i + 1) h' → Q { s with heap := h', toks := tk }) → wpAny (model P w) A.in1 (holding [v] (setAdd S v)) (fun _ => Q) E' s) :
    ∀ (d i : Nat) (s : Shared), n - i = d → i ≤ n → St i s → J i s.heap → (∀ s', Moved (S :: wr) G s s' → J n s'.heap → R (.ok (.ret .none)) s') →
      codeAny (model P w) A (.builtin "set.update.loop" ⟨[.ref S, .ref I], []⟩) R s := by
  have more : ∀ b ∈ wr, b ∈ S :: wr := fun b hb => List.mem_cons_of_mem _ hb
  intro d
  induction d with
  | zero =>
    intro i s hd hi st hJ hR
    obtain rfl : i = n := by omega
    refine codeAny_builtin F.entry_set_update_loop ?_
    rw [Around.under_plainId F.plain_set_update_loop _]
    refine wpAny_bind (m := pyNext (.ref I)) (W.done s _ _ st fun s' hm => ?_)
    exact wpAny_pure (hR s' (hm.mono more) (jk _ _ _ hJ fun b o hb e => hm.heap b o hb e))
  | succ d ih =>
    intro i s hd hi st hJ hR
    have lt : i < n := by omega
    refine codeAny_builtin F.entry_set_update_loop ?_
    rw [Around.under_plainId F.plain_set_update_loop _]
    refine wpAny_bind (m := pyNext (.ref I)) (W.item i s _ _ lt st fun v s' hP st' hm => ?_)
    have hJ' : J i s'.heap := jk _ _ _ hJ fun b o hb e => hm.heap b o hb e
    refine wpAny_bind (m := holding [v] (setAdd S v)) (js i v s' _ _ hP hJ' fun h' tk ht sb hN => ?_)
    refine wpAny_pure ⟨plainId_quiet F.plain_set_update_loop _, ih (i + 1) _ (by omega) lt (W.frame _ s' _ _ st' ht fun b hb o e => ?_) hN fun s2 m2 r2 => ?_⟩
    · rw [sb.2 b (fun z : b = S => hSf (by rw [← z]; exact hb))]; exact e
    · refine hR s2 (Moved.trans W.gtrans ((hm.mono more).then_heap ht fun b o hb e => ?_) m2) r2
      rw [sb.2 b (fun z : b = S => hb (by rw [z]; exact List.mem_cons_self))]; exact e
set_option maxHeartbeats 3200000 in
/-- set(xs), xs a list or a tuple -/
theorem setG_call {l : Addr} {its : Array Value} {Q : Value → Shared → Prop} (J : Nat → Heap → Prop) (hh : A.handled = none) (hl : s.heap.IsList l its ∨ s.heap.IsTuple l its)
    (j0 : ∀ h, (∀ b o, s.heap.get? b = some o → h.get? b = some o) → h.get? s.heap.objs.size = some (newSet w) → J 0 h)
    (jk : ∀ i h h', J i h → (∀ b o, b ≤ s.heap.objs.size → h.get? b = some o → h'.get? b = some o) → J i h')
    (js : ∀ (A' : Around) i v (s' : Shared) (E' : Value → Shared → Prop) (Q : Shared → Prop), A'.units ≤ A.units + 8 → its[i]? = some v → J i s'.heap → (∀ h' tk, s'.toks ≤ tk → Heap.SameBut s.heap.objs.size s'.heap h' → J (i + 1) h' → Q { s' with heap := h', toks := tk }) → wpAny (model P w) A' (holding [v] (setAdd s.heap.objs.size v)) (fun _ => Q) E' s')
    (h : ∀ (h' : Heap) (tk : Nat), J its.size h' → (∀ b o, s.heap.get? b = some o → h'.get? b = some o) → Q (.ref s.heap.objs.size) { s with heap := h', toks := tk }) :
    wpAny (model P w) A (call (.type "set") [.ref l]) Q E s := by
  obtain ⟨cc, tl, mro⟩ := F.called_set.mro
  have made := F.called_set.made
  have sub := F.called_set.sub
  refine wpAny_call (codeAny_of_tree ?_)
  show wpAny _ _ (callAny (.type "set") _) _ _ _
  refine wpAny_pure ⟨Code.quiet_builtin _ (by decide +kernel), codeAny_builtin F.entry_type_call ?_⟩
  rw [Around.under_plain (weight_type_call_type "set" [.ref l] []) rfl]
  have n1 := F.called_set.notType
  have n2 := F.called_set.canCreate
  have ct := F.typeCall_set_1 (.ref l)
  repeat (any_goals (first | assumption | wp_step))
  refine codeAny_mono (code_set_led1 (.ref l) (E := E) (Q₁ := fun v s₁ => v = .ref s.heap.objs.size ∧ s₁ = { s with heap := s.heap.push (newSet w) }) ⟨rfl, rfl⟩) fun r s₁ hr => ?_
  cases r with
  | error e => exact hr
  | ok fl =>
    cases fl with
    | ret v =>
      obtain ⟨rfl, rfl⟩ := hr
      have hS : (s.heap.push (newSet w)).get? s.heap.objs.size = some (newSet w) := Heap.get?_push_size _ rfl
      have hT : Shared.TypeIs { s with heap := s.heap.push (newSet w) } (.ref s.heap.objs.size) "set" := ⟨_, hS, rfl⟩
      have li := F.called_set.init.lookup
      have lb := F.called_set.init.bind (.ref s.heap.objs.size)
      have lt : l < s.heap.objs.size := by
        rcases hl with ⟨o, ho, _⟩ | ⟨o, ho, _⟩ <;> exact Heap.lt_size ho
      have nI : l ≠ (s.heap.push (newSet w)).objs.size := by rw [Heap.size_push]; exact Nat.ne_of_lt (Nat.lt_succ_of_lt lt)
      have nf : s.heap.objs.size ∉ [(s.heap.push (newSet w)).objs.size, l] := by
        rw [Heap.size_push]
        simp only [List.mem_cons, List.mem_singleton, List.not_mem_nil, or_false, not_or]
        exact ⟨Nat.ne_of_lt (Nat.lt_succ_self _), Nat.ne_of_gt lt⟩
      have h3 : A.in1.in1.in1.handled = none := by simp [hh]
      have jk' : ∀ i h h', J i h → (∀ b o, b ∉ [(s.heap.push (newSet w)).objs.size] → h.get? b = some o → h'.get? b = some o) → J i h' := fun i h h' x e => jk i h h' x fun b o hb q => e b o (fun z => by
        rw [List.mem_singleton.mp z, Heap.size_push] at hb
        exact absurd hb (Nat.not_succ_le_self _)) q
      repeat (any_goals (first | assumption | wp_step))
      refine codeAny_mono (codeAny_call_builtin (R := wants (fun r s₂ => r = .none ∧ ∃ h' tk, s₂ = { s with heap := h', toks := tk } ∧ J its.size h' ∧ ∀ b o, s.heap.get? b = some o → h'.get? b = some o) E)
        F.called_set.init.plain F.entry_set_init (check_set_init_1 hT ?_)) fun r₂ s₂ q₂ => ?_
      · rcases hl with hl | hl
        · obtain ⟨ol, hol, hcl, nl, hdl⟩ := hl
          obtain ⟨oc, od, oa, os⟩ := ol
          simp only at hcl hdl
          subst hcl; subst hdl
          have ol' : (s.heap.push (newSet w)).get? l = some { cls := .type "list", dict := od, data := .seq its nl, slots := os } := Heap.get?_push_of_some _ hol
          have s1 := F.sub_list_set
          have s2 := F.sub_list_frozenset
          have ne : (Value.type "list" == Value.type "dict") = false := by decide
          have l1 : (s.heap.push (newSet w)).IsList l its := ⟨_, ol', rfl, nl, rfl⟩
          unfold Builtin.«set.__init__» noKeywords Builtin.Frozenset.updateFrom
          generalize hPI : pyIter = PI
          wp_walk
          subst hPI
          refine wpAny_pyIter_list l1 (wpAny_bind (wpAny_runValue ?_))
          refine setG_loop ((Walks.list h3 _ l nI its).toS) s.heap.objs.size nf J jk' (fun i v s' E' Q' hP => js _ i v s' E' Q' (by show A.units + 1 + 1 + 1 ≤ A.units + 8; omega) hP) (its.size - 0) 0 _ (by omega) (Nat.zero_le _) ⟨⟨_, Heap.get?_push_size _ rfl, rfl, rfl⟩, (l1.push _)⟩ (j0 _ (fun b o e => Heap.get?_push_of_some _ (Heap.get?_push_of_some _ e)) (Heap.get?_push_of_some _ hS)) ?_
          intro s' hm hS'
          have keep : ∀ b o, s.heap.get? b = some o → s'.heap.get? b = some o := fun b o e => hm.heap b o (fun z => by
            have lt := Heap.lt_size e
            rcases List.mem_cons.mp z with z | z
            · rw [z] at lt; exact Nat.lt_irrefl _ lt
            · rw [List.mem_singleton.mp z, Heap.size_push] at lt
              exact absurd lt (Nat.not_lt_of_le (Nat.le_succ _))) (Heap.get?_push_of_some _ (Heap.get?_push_of_some _ e))
          obtain ⟨h', g2, d', tk', os'⟩ := s'
          have eg : g2 = s.gens := hm.gens
          have ed : d' = s.drawn := hm.drawn
          have eo : os' = s.os := hm.os
          subst eg; subst ed; subst eo
          show wpAny _ _ _ _ _ _
          refine wpAny_pure ?_
          show wpAny _ _ (ret Value.none) _ _ _
          exact wpAny_pure ⟨rfl, h', tk', rfl, hS', keep⟩
        · obtain ⟨ol, hol, hcl, nl, hdl⟩ := hl
          obtain ⟨oc, od, oa, os⟩ := ol
          simp only at hcl hdl
          subst hcl; subst hdl
          have ol' : (s.heap.push (newSet w)).get? l = some { cls := .type "tuple", dict := od, data := .seq its nl, slots := os } := Heap.get?_push_of_some _ hol
          have s1 := F.sub_tuple_set
          have s2 := F.sub_tuple_frozenset
          have ne : (Value.type "tuple" == Value.type "dict") = false := by decide
          have l1 : (s.heap.push (newSet w)).IsTuple l its := ⟨_, ol', rfl, nl, rfl⟩
          unfold Builtin.«set.__init__» noKeywords Builtin.Frozenset.updateFrom
          generalize hPI : pyIter = PI
          wp_walk
          subst hPI
          refine wpAny_pyIter_tuple l1 (wpAny_bind (wpAny_runValue ?_))
          refine setG_loop ((Walks.tuple h3 _ l nI its).toS) s.heap.objs.size nf J jk' (fun i v s' E' Q' hP => js _ i v s' E' Q' (by show A.units + 1 + 1 + 1 ≤ A.units + 8; omega) hP) (its.size - 0) 0 _ (by omega) (Nat.zero_le _) ⟨⟨_, Heap.get?_push_size _ rfl, rfl, rfl⟩, (l1.push _)⟩ (j0 _ (fun b o e => Heap.get?_push_of_some _ (Heap.get?_push_of_some _ e)) (Heap.get?_push_of_some _ hS)) ?_
          intro s' hm hS'
          have keep : ∀ b o, s.heap.get? b = some o → s'.heap.get? b = some o := fun b o e => hm.heap b o (fun z => by
            have lt := Heap.lt_size e
            rcases List.mem_cons.mp z with z | z
            · rw [z] at lt; exact Nat.lt_irrefl _ lt
            · rw [List.mem_singleton.mp z, Heap.size_push] at lt
              exact absurd lt (Nat.not_lt_of_le (Nat.le_succ _))) (Heap.get?_push_of_some _ (Heap.get?_push_of_some _ e))
          obtain ⟨h', g2, d', tk', os'⟩ := s'
          have eg : g2 = s.gens := hm.gens
          have ed : d' = s.drawn := hm.drawn
          have eo : os' = s.os := hm.os
          subst eg; subst ed; subst eo
          show wpAny _ _ _ _ _ _
          refine wpAny_pure ?_
          show wpAny _ _ (ret Value.none) _ _ _
          exact wpAny_pure ⟨rfl, h', tk', rfl, hS', keep⟩
      · cases r₂ with
        | error e => exact q₂
        | ok fl₂ =>
          cases fl₂ with
          | ret r =>
            obtain ⟨rfl, h', tk, rfl, hS', k'⟩ := q₂
            repeat (any_goals (first | assumption | wp_step))
            exact h _ _ hS' k'
          | _ => exact q₂.elim
    | _ => exact hr.elim
end
end Ra


set_option Elab.async false
set_option linter.all false
set_option autoImplicit false
set_option maxRecDepth 100000
/-! sorted(set(e)) -/
namespace Ra
open PySem PySem.Spec PyProof.Rows L2
/-! ### sets of texts -/
def keyS (e : Int × Value) : Str := match e.2 with
  | .str k _ => k
  | _ => ⟨#[]⟩
def GoodS (w : World) (e : Int × Value) : Prop := ∃ k tk, e = (hashStr w k, Value.str k tk)
/-- the set at a holds the texts L; it can be walked -/
def SetS (w : World) (h : Heap) (a : Addr) (L : List Str) : Prop :=
  ∃ o es ep t, (h.get? a = some o ∧ o.ExactSet ∧ o.data = .set es ep t) ∧ (∀ e ∈ es.toList, GoodS w e) ∧ (es.toList.map keyS).Perm L ∧ L.Nodup ∧ (es.size < scanBound ∧ t.fits es.size = true) ∧ Ris t.place.toList ∧ (w.params.followText "set-order" = true ∨ t.led = true)
section
variable {P : Program} {w : World} {A : Around} {E : Value → Shared → Prop} {s : Shared} {a : Addr} {L : List Str}
theorem SetS.keep {h h' : Heap} (R : SetS w h a L) (k : ∀ o, h.get? a = some o → h'.get? a = some o) : SetS w h' a L := by
  obtain ⟨o, es, ep, t, ⟨ho, q⟩, r⟩ := R
  exact ⟨o, es, ep, t, ⟨k o ho, q⟩, r⟩
theorem goodS_elems {l : List (Int × Value)} (g : ∀ e ∈ l, GoodS w e) : ElemsOf (strKind P w) l := fun e he => by
  obtain ⟨k, tk, rfl⟩ := g e he
  exact ⟨⟨k, PySem.Froz.is_str k tk, rfl⟩, rfl⟩
theorem goodS_is {e : Int × Value} (g : GoodS w e) (k : Str) : (strKind P w).is k e.2 = true ↔ keyS e = k := by
  obtain ⟨k0, tk, rfl⟩ := g
  constructor
  · intro h
    exact (strKind P w).inj (.str k0 tk) k0 k (PySem.Froz.is_str k0 tk) h
  · rintro rfl
    exact PySem.Froz.is_str k0 tk
theorem setS_tail {gv : Bool → Sem Unit} (hg : ∀ (b : Bool) (s₁ : Shared) (Q' : Unit → Shared → Prop), Q' () s₁ → wpAny (model P w) A (gv b) Q' E s₁) {o : Obj} {es : Array (Int × Value)} {ep : Nat} {t : SetTable}
    (ho : s.heap.get? a = some o) (hex : o.ExactSet) (hd : o.data = .set es ep t) {fs : Array (Int × Value)} {t2 : SetTable} {L' : List Str} (g1 : ∀ e ∈ fs.toList, GoodS w e) (p1 : (fs.toList.map keyS).Perm L') (nd1 : L'.Nodup)
    (hb1 : fs.size < scanBound) (hf2 : t2.fits fs.size = true) (hr : Ris t2.place.toList) (hl : w.params.followText "set-order" = true ∨ t2.led = true) {dm : Bool} {R : Option Bool → Shared → Prop}
    (hR : ∀ h', Heap.SameBut a s.heap h' → SetS w h' a L' → R (some true) { s with heap := h' }) :
    wpAny (model P w) A (do
      storeSet a fs t2
      if (!dm && t2.tooFull) = true then do
        gv (relayAll t2 fs (SetTable.grown fs.size)).2.2
        storeSet a (relayAll t2 fs (SetTable.grown fs.size)).1 (relayAll t2 fs (SetTable.grown fs.size)).2.1
        pure (some true)
      else pure (some true)) R E s := by
  refine wpAny_bind (wpAny_storeSet_of ho hd ?_ (fits_of_scanBound hb1))
  have o1 := store_at (es' := fs) (t' := t2) ho hd
  have sb := Heap.SameBut.update s.heap a (Obj.putSet fs t2)
  split
  · have pm := relayAll_perm t2 fs (SetTable.grown fs.size)
    have f3 := relayAll_fits t2 fs (SetTable.grown fs.size)
    have r3 := relayAll_ris t2 fs (SetTable.grown fs.size)
    have l3 := relayAll_led t2 fs (SetTable.grown fs.size)
    generalize relayAll t2 fs (SetTable.grown fs.size) = Z at pm f3 r3 l3 ⊢
    obtain ⟨gs, t3, gave⟩ := Z
    dsimp only at pm f3 r3 l3 ⊢
    have sz : gs.size = fs.size := by rw [← Array.length_toList, pm.length_eq, Array.length_toList]
    have b2 : gs.size < scanBound := by rw [sz]; exact hb1
    refine wpAny_bind (hg _ _ _ (wpAny_bind (wpAny_storeSet_of o1 rfl ?_ (fits_of_scanBound b2))))
    have o2 := store_at (es' := gs) (t' := t3) o1 rfl
    exact wpAny_pure (hR _ (sb.trans (Heap.SameBut.update _ a _)) ⟨_, gs, _, t3, ⟨o2, hex, rfl⟩, fun e he => g1 e (pm.mem_iff.mp he), (pm.map keyS).trans p1, nd1, ⟨b2, f3⟩, r3, hl.imp id fun z => by rw [l3]; exact z⟩)
  · exact wpAny_pure (hR _ sb ⟨_, fs, _, t2, ⟨o1, hex, rfl⟩, g1, p1, nd1, ⟨hb1, hf2⟩, hr, hl⟩)
/-- one text is put in -/
theorem setS_add {k : Str} {tk : Tok} {Q : Bool → Shared → Prop} (R : SetS w s.heap a L) (room : L.length + 1 < scanBound)
    (hQ : ∀ h' b L', Heap.SameBut a s.heap h' → SetS w h' a L' → L' = (if k ∈ L then L else L ++ [k]) → Q b { s with heap := h' }) : wpAny (model P w) A (setAddHashed a (.str k tk) ((strKind P w).hash k)) Q E s := by
  obtain ⟨o, es, ep, t, ⟨ho, hex, hd⟩, g, pL, nd, ⟨hb, hf⟩, hr, hl⟩ := R
  have key : (strKind P w).is k (.str k tk) = true := PySem.Froz.is_str k tk
  have sc : (Value.str k tk).scannable = true := rfl
  have el : ElemsOf (strKind P w) es.toList := goodS_elems g
  have mem : ∀ j, j ∈ L ↔ ∃ e ∈ es.toList, (strKind P w).is j e.2 = true := fun j => by
    rw [← pL.mem_iff, List.mem_map]
    exact ⟨fun ⟨e, he, q⟩ => ⟨e, he, (goodS_is (g e he) j).2 q⟩, fun ⟨e, he, q⟩ => ⟨e, he, (goodS_is (g e he) j).1 q⟩⟩
  unfold setAddHashed setAddHashedIn
  refine wpAny_holding (wpAny_bind (wpAny_setState_of ho hd hf ?_))
  dsimp only
  rw [byScan_of sc hb el]
  simp only [↓reduceIte]
  unfold setAddByScan
  refine wpAny_bind (wpAny_bind (wpAny_rule (wpAny_bind (wpAny_setScan_of key ho hd hf el ?_))))
  cases hfi : List.findIdx? (fun e => (strKind P w).is k e.2) es.toList with
  | some j =>
    dsimp only
    obtain ⟨hj, pj, _⟩ := List.findIdx?_eq_some_iff_getElem.mp hfi
    have hk : k ∈ L := (mem k).2 ⟨es.toList[j], List.getElem_mem hj, pj⟩
    refine wpAny_pure (wpAny_pure (hQ s.heap _ L (Heap.SameBut.refl a s.heap) ⟨o, es, ep, t, ⟨ho, hex, hd⟩, g, pL, nd, ⟨hb, hf⟩, hr, hl⟩ (by rw [if_pos hk])))
  | none =>
    dsimp only
    have hk : k ∉ L := fun z => by
      obtain ⟨e, he, q⟩ := (mem k).1 z
      have c := List.findIdx?_eq_none_iff.mp hfi e he
      rw [q] at c
      cases c
    have gw : ∀ (b : Bool) {s₁ : Shared} {Q' : Unit → Shared → Prop}, Q' () s₁ → wpAny (model P w) A (match b with
        | true => rule "set.scan.the-table-gave-way"
        | false => pure ()) Q' E s₁ := fun b s₁ Q' q => by cases b <;> first | exact wpAny_pure q | exact wpAny_rule q
    have pm := layNew_perm t es ((strKind P w).hash k) (.str k tk)
    have f1 := layNew_fits t es ((strKind P w).hash k) (.str k tk)
    have r1 := layNew_ris t es ((strKind P w).hash k) (.str k tk) hr
    have l1 := layNew_led t es ((strKind P w).hash k) (.str k tk)
    generalize layNew t es ((strKind P w).hash k) (.str k tk) = Z at pm f1 r1 l1 ⊢
    obtain ⟨fs, t1, wd, gave⟩ := Z
    dsimp only at pm f1 r1 l1 ⊢
    rw [Array.toList_push] at pm
    have g1 : ∀ e ∈ fs.toList, GoodS w e := fun e he => by
      rcases List.mem_append.mp (pm.mem_iff.mp he) with z | z
      · exact g e z
      · rw [List.mem_singleton.mp z]; exact ⟨k, tk, rfl⟩
    have p1 : (fs.toList.map keyS).Perm (L ++ [k]) := by
      have q := pm.map keyS
      rw [List.map_append] at q
      exact q.trans (List.Perm.append_right _ pL)
    have nd1 : (L ++ [k]).Nodup := List.nodup_append.mpr ⟨nd, List.nodup_cons.mpr ⟨by simp, List.nodup_nil⟩, fun x hx y hy => by
      rw [List.mem_singleton.mp hy]
      rintro rfl
      exact hk hx⟩
    have sz : fs.size = L.length + 1 := by
      have q := p1.length_eq
      rw [List.length_map, Array.length_toList, List.length_append] at q
      exact q
    have b1 : fs.size < scanBound := by rw [sz]; exact room
    have led : w.params.followText "set-order" = true ∨ t1.led = true := hl.imp id fun z => by rw [l1]; exact z
    have fin : ∀ h', Heap.SameBut a s.heap h' → SetS w h' a (L ++ [k]) → Q true { s with heap := h' } := fun h' sb r => hQ h' true _ sb r (by rw [if_neg hk])
    refine wpAny_bind (gw _ ?_)
    split
    · refine wpAny_bind ?_
      rw [hashByValue_scannable 8 sc]
      refine wpAny_pure ?_
      refine setS_tail ?_ ho hex hd g1 p1 nd1 b1 ?_ ?_ ?_ ?_
      · intro b s₁ Q' q; cases b <;> first | exact wpAny_pure q | exact wpAny_rule q
      · first | (split <;> first | exact f1 | exact SetTable.fits_plain_off f1) | exact f1
      · first | (split <;> exact r1) | exact r1
      · first | (split <;> exact led) | exact led
      · intro h' sb r; dsimp only; exact wpAny_pure (fin h' sb r)
    · refine wpAny_bind (wpAny_pure ?_)
      simp only [↓reduceIte]
      refine setS_tail ?_ ho hex hd g1 p1 nd1 b1 f1 r1 led ?_
      · intro b s₁ Q' q; cases b <;> first | exact wpAny_pure q | exact wpAny_rule q
      · intro h' sb r; dsimp only; exact wpAny_pure (fin h' sb r)
/-- the texts that are met first -/
def firstS : List Str → List Str → List Str
  | L, [] => L
  | L, k :: r => firstS (if k ∈ L then L else L ++ [k]) r
theorem firstS_snoc (k : Str) : ∀ (ks L : List Str), firstS L (ks ++ [k]) = (if k ∈ firstS L ks then firstS L ks else firstS L ks ++ [k])
  | [], L => rfl
  | j :: ks, L => firstS_snoc k ks _
theorem firstS_len : ∀ (ks L : List Str), (firstS L ks).length ≤ L.length + ks.length
  | [], L => Nat.le_refl _
  | k :: ks, L => by
    refine Nat.le_trans (firstS_len ks _) ?_
    split <;> simp <;> omega
theorem setS_fresh {h : Heap} {a : Addr} (ho : h.get? a = some { cls := .type "set", dict := none, data := .set #[] 0 (.fresh 0 0 (!w.params.followText "set-order")) }) : SetS w h a [] :=
  ⟨_, #[], 0, _, ⟨ho, ⟨rfl, rfl, rfl⟩, rfl⟩, (fun e he => by simp at he), .refl _, .nil, ⟨by decide, rfl⟩, List.Pairwise.nil, by
    show _ ∨ (!w.params.followText "set-order") = true
    cases w.params.followText "set-order"
    · exact .inr rfl
    · exact .inl rfl⟩
/-- set(xs), xs a list or a tuple of texts -/
theorem setS_call {l : Addr} {its : Array Value} (ks : List Str) {Q : Value → Shared → Prop} (hh : A.handled = none) (hl : s.heap.IsList l its ∨ s.heap.IsTuple l its) (hval : ∀ (i : Nat) (v : Value), its[i]? = some v → ∃ k t, ks[i]? = some k ∧ v = .str k t) (hn : its.size = ks.length) (hb : ks.length + 1 < scanBound)
    (h : ∀ (h' : Heap) (tk : Nat), SetS w h' s.heap.objs.size (firstS [] ks) → (∀ b o, s.heap.get? b = some o → h'.get? b = some o) → Q (.ref s.heap.objs.size) { s with heap := h', toks := tk }) :
    wpAny (model P w) A (call (.type "set") [.ref l]) Q E s := by
  refine setG_call (fun i h => SetS w h s.heap.objs.size (firstS [] (ks.take i))) hh hl (fun h _ e => setS_fresh e) (fun i h h' x e => x.keep fun o q => e _ o (Nat.le_refl _) q) (fun A' i v s' E' Q' _ hv hJ hQ => ?_) fun h' tk x e => h h' tk (by rw [hn, List.take_length] at x; exact x) e
  obtain ⟨k, t, hk, rfl⟩ := hval i v hv
  refine wpAny_holding ?_
  unfold setAdd
  refine wpAny_holding (wpAny_bind ((strKind P w).pyHash (k := k) (PySem.Froz.is_str k t) ?_))
  have room : (firstS [] (ks.take i)).length + 1 < scanBound := by
    have q := firstS_len (ks.take i) []
    rw [List.length_take] at q
    simp only [List.length_nil] at q
    omega
  refine setS_add (s := { s' with toks := s'.toks + 1 }) hJ room fun h' b L' sb r e => hQ h' _ (Nat.le_succ _) sb ?_
  rw [L2.take_next hk, firstS_snoc, ← e]
  exact r
end
end Ra


set_option Elab.async false
set_option linter.all false
set_option autoImplicit false
set_option maxRecDepth 100000
/-! sorted(set(e)), the rest -/
namespace Ra
open PySem PySem.Spec PyProof.Rows L2
section
variable {P : Program} {w : World} {A : Around} {E : Value → Shared → Prop} {s : Shared} {a : Addr} {L : List Str}
/-- sorted(a), a set of texts -/
theorem setS_sorted {Q : Value → Shared → Prop} (R : SetS w s.heap a L) (hh : A.handled = none) (hu : A.units + 200 < cLine)
    (hQ : ∀ s' p (out : List Value) (c : Nat), (∀ b o, s.heap.get? b = some o → s'.heap.get? b = some o) → s'.gens = s.gens → s'.os = s.os → s.heap.objs.size ≤ p → s'.heap.get? p = some (seqObj "list" out.toArray c) → out.length = L.length →
      (∃ L' : List Str, L'.Perm L ∧ PySem.W.EachIs (fun u d => ∃ k t, d = PyData.str k ∧ u = Value.str k t) out (isort [] (L'.map PyData.str))) → Q (.ref p) s') :
    wpAny (model P w) A (call (.builtin "sorted") [.ref a]) Q E s := by
  obtain ⟨o, es, ep, t, ⟨ho, hex, hd⟩, g, pL, nd, ⟨hb, hf⟩, hr, hl⟩ := R
  refine Calls.call_function_entry kind_sorted plain_sorted entry_sorted (args_sorted1 _) ?_
  unfold Builtin.«sorted»
  refine wpAny_bind (m := checkCount "sorted" 1 1 _) (wpAny_pure (wpAny_bind (collect_set (A := A.in1) hh ⟨o, ho, hex.1, hd⟩ hf hb hr hl fun s1 vs k1 hz g1 o1 pm => ?_)))
  have hvl : vs.length = L.length := by rw [pm.length_eq, List.length_map, ← pL.length_eq, List.length_map]
  have gv : ∀ v ∈ vs, ∃ k t, v = Value.str k t := fun v hv => by
    obtain ⟨e, he, q⟩ := List.mem_map.mp (pm.mem_iff.mp hv)
    obtain ⟨k, tk, rfl⟩ := g e he
    exact ⟨k, tk, q.symm⟩
  let kv : Value → Str := fun v => keyS (0, v)
  have pk : (vs.map kv).Perm L := by
    have q := pm.map kv
    rw [List.map_map] at q
    exact q.trans pL
  have hlen : L.length ≤ sizeLine := by
    have q := pL.length_eq
    rw [List.length_map, Array.length_toList] at q
    rw [← q]
    exact fits_of_scanBound hb
  have each : ∀ {R' : Value → PyData → Prop} (l : List Value), (∀ v ∈ l, ∃ k t, v = Value.str k t) → (∀ k t, R' (Value.str k t) (.str k)) → PySem.W.EachIs R' l (l.map fun v => PyData.str (kv v)) := by
    intro R' l
    induction l with
    | nil => exact fun _ _ => .nil
    | cons v l ih =>
      intro h1 h2
      obtain ⟨k, t, rfl⟩ := h1 v List.mem_cons_self
      exact .cons (h2 k t) (ih (fun u hu => h1 u (List.mem_cons_of_mem _ hu)) h2)
  refine wpAny_bind (wpAny_newList ?_ (by rw [hvl]; exact hlen))
  have oL : (s1.heap.push (seqObj "list" vs.toArray 0)).get? s1.heap.objs.size = some (seqObj "list" vs.toArray 0) := Heap.get?_push_size _ rfl
  refine wpAny_bind (wpAny_holding (PySem.W.list_sort_data (enc := id) (vs := vs) (bs := vs.map fun v => PyData.str (kv v)) (R := fun u d => ∃ k t, d = PyData.str k ∧ u = Value.str k t) oL (each vs gv fun k t => ⟨k, t, rfl, rfl⟩)
    (each vs gv fun k t => ⟨[], .str _ _, by simp⟩) ?_ ?_ (by rw [List.length_map, hvl]; exact hlen) ?_ fun out hol he => ?_))
  · rw [List.map_id]
    intro d hd d' hd'
    obtain ⟨v, _, rfl⟩ := List.mem_map.mp hd
    obtain ⟨v', _, rfl⟩ := List.mem_map.mp hd'
    simp [PySem.W.alike]
  · rw [List.map_id]
    refine .inr fun d hd => ?_
    obtain ⟨v, _, rfl⟩ := List.mem_map.mp hd
    exact ⟨by simp, by simp⟩
  · intro b hb
    obtain ⟨v, _, rfl⟩ := List.mem_map.mp hb
    show A.in1.units + 1 + (PyData.str (kv v)).depth < cLine
    simp only [PyData.depth]
    show A.units + 1 + 1 + 0 < cLine
    omega
  · rw [← isort_eq] at he
    obtain ⟨c, hc⟩ := sortedHeap_at (vs := vs) (out := out.toArray) oL
    refine wpAny_pure ⟨_, rfl, hQ _ s1.heap.objs.size out c (fun b u e => ?_) g1 o1 hz hc (by rw [hol, List.length_map, hvl]) ⟨vs.map kv, pk, by rw [List.map_map]; exact he⟩⟩
    have q := k1 b u e
    have lt := Heap.lt_size q
    show (sortedHeap (s1.heap.push (seqObj "list" vs.toArray 0)) s1.heap.objs.size vs out.toArray).get? b = some u
    rw [sortedHeap_old (Nat.ne_of_lt lt) (by rw [size_push']; exact Nat.lt_succ_of_lt lt)]
    exact Heap.get?_push_of_some _ q
end
end Ra


set_option Elab.async false
set_option linter.all false
set_option autoImplicit false
set_option maxRecDepth 100000
/-! sorted(set(e)): the rule -/
namespace Ra
open PySem PySem.Spec PyProof.Rows L2
theorem dle_str (x y : Str) : dle (.str x) (.str y) = decide (x.cps.toList ≤ y.cps.toList) := by
  show (!PySem.W.dataLt (.str y) (.str x)) = _
  rw [PySem.W.dataLt_str, PySem.W.not_lt_str]
theorem dle_anti {x y : Str} (h1 : dle (.str x) (.str y) = true) (h2 : dle (.str y) (.str x) = true) : PyData.str x = .str y := by
  rw [dle_str] at h1 h2
  have e := List.le_antisymm (of_decide_eq_true h1) (of_decide_eq_true h2)
  rw [PySem.W.str_of_cps e]
theorem ins_perm (x : PyData) : ∀ l, (ins x l).Perm (x :: l)
  | [] => .refl _
  | y :: l => by
    unfold ins
    split
    · exact .refl _
    · exact ((ins_perm x l).cons y).trans (.swap x y l)
theorem isort_perm : ∀ (l acc : List PyData), (isort acc l).Perm (acc ++ l)
  | [], acc => by simp [isort]
  | x :: l, acc => by
    refine (isort_perm l _).trans ?_
    refine ((ins_perm x acc).append_right l).trans ?_
    exact (List.perm_middle (a := x) (l₁ := acc) (l₂ := l)).symm
theorem sorted_unique : ∀ {l l' : List PyData}, (∀ x ∈ l, ∀ y ∈ l, dle x y = true → dle y x = true → x = y) → l.Pairwise (fun a b => dle a b = true) → l'.Pairwise (fun a b => dle a b = true) → l.Perm l' → l = l'
  | [], l', _, _, _, p => by rw [List.nil_perm.mp p]
  | x :: l, l', ha, h, h', p => by
    cases l' with
    | nil => exact absurd p.length_eq (by simp)
    | cons y l' =>
      obtain ⟨a1, a2⟩ := List.pairwise_cons.mp h
      obtain ⟨b1, b2⟩ := List.pairwise_cons.mp h'
      have hy : y ∈ x :: l := p.mem_iff.mpr List.mem_cons_self
      have hx : x ∈ y :: l' := p.mem_iff.mp List.mem_cons_self
      have e : x = y := by
        rcases List.mem_cons.mp hy with q | q
        · exact q.symm
        · rcases List.mem_cons.mp hx with z | z
          · exact z
          · exact ha x List.mem_cons_self y hy (a1 y q) (b1 x z)
      subst e
      rw [sorted_unique (fun u hu v hv => ha u (List.mem_cons_of_mem _ hu) v (List.mem_cons_of_mem _ hv)) a2 b2 (List.perm_cons x |>.mp p)]
theorem isort_strs {L L' : List Str} (p : L'.Perm L) : isort [] (L'.map PyData.str) = isort [] (L.map PyData.str) := by
  refine sorted_unique (fun x hx y hy => ?_) (isort_sorted _ _ .nil) (isort_sorted _ _ .nil) ((isort_perm _ []).trans ((p.map _).trans (isort_perm _ []).symm))
  have hx := (isort_perm _ _).mem_iff.mp hx
  have hy := (isort_perm _ _).mem_iff.mp hy
  obtain ⟨a, _, rfl⟩ := List.mem_map.mp hx
  obtain ⟨b, _, rfl⟩ := List.mem_map.mp hy
  exact dle_anti
theorem eqv_str (x y : Str) : PyData.eqv (.str x) (.str y) = (x == y) := by simp [PyData.eqv]
theorem dedup_strs : ∀ (ks L : List Str), dedup (L.reverse.map PyData.str) (ks.map PyData.str) = (firstS L ks).map PyData.str
  | [], L => by simp [dedup, firstS]
  | k :: ks, L => by
    show dedup (L.reverse.map PyData.str) (.str k :: ks.map PyData.str) = _
    unfold dedup firstS
    have e : (List.map PyData.str L.reverse).any (fun y => PyData.eqv y (.str k)) = decide (k ∈ L) := by
      rw [List.any_map, Bool.eq_iff_iff, List.any_eq_true, decide_eq_true_eq]
      constructor
      · rintro ⟨x, hx, h⟩
        have : x = k := by simpa [eqv_str] using h
        rw [← this]
        exact List.mem_reverse.mp hx
      · intro h
        exact ⟨k, List.mem_reverse.mpr h, by simp [eqv_str]⟩
    rw [e]
    by_cases h : k ∈ L
    · simp only [h, decide_true, if_true]
      exact dedup_strs ks L
    · simp only [h, decide_false, Bool.false_eq_true, if_false]
      have := dedup_strs ks (L ++ [k])
      rw [List.reverse_append] at this
      exact this
theorem allStr_ok : ∀ {xs : List PyData}, allStr xs = true → ∃ ks : List Str, xs = ks.map PyData.str
  | [], _ => ⟨[], rfl⟩
  | .str k :: r, h => by
    obtain ⟨ks, rfl⟩ := allStr_ok (xs := r) h
    exact ⟨k :: ks, rfl⟩
  | .none :: _, h => by cases h
  | .bool _ :: _, h => by cases h
  | .int _ :: _, h => by cases h
  | .list _ :: _, h => by cases h
  | .tuple _ :: _, h => by cases h
  | .dict _ :: _, h => by cases h
def SetSO (w : World) (a : Addr) (L : List Str) : HO := .ext fun h => SetS w h a L
theorem setSO_new {P : Program} {w : World} {H : Hp} {h : Heap} {a : Addr} {L : List Str} (R : SetS w h a L) : ObjOk P w H h a (SetSO w a L) := by
  have ⟨o, _, _, _, ⟨ho, _⟩, _⟩ := R
  exact ⟨R, ⟨o, ho⟩, fun h1 h2 p k => SetS.keep p k⟩
def rSet1 (K : PySem.W.Frag) (w : World) : List V → Hp → VK → Prop := fun xs H Q => ∃ (a : Addr) (ks : List Str), xs = [.ref a] ∧ (Rd H a (.lst (ks.map V.str)) ∨ SqT K H a (ks.map V.str)) ∧ ks.length + 1 < scanBound ∧ ∀ p, H p = none → Q (.ref p) (upd H p (SetSO w p (firstS [] ks)))
def rSet2 (w : World) : List V → Hp → VK → Prop := fun xs H Q => ∃ (a : Addr) (L : List Str), xs = [.ref a] ∧ H a = some (SetSO w a L) ∧ ∀ p (M : List Str), M.map PyData.str = isort [] (L.map PyData.str) → H p = none → Q (.ref p) (upd H p (.lst (M.map V.str)))
section
variable {X : Cx} {e : Expr} {p : P} {pos : Pos}
theorem vals_strs : ∀ {ks : List Str} {us : List Value}, Vals (ks.map V.str) us → (us.length = ks.length) ∧ ∀ (i : Nat) (v : Value), us[i]? = some v → ∃ k t, ks[i]? = some k ∧ v = .str k t
  | [], _, .nil => ⟨rfl, fun i v h => by simp at h⟩
  | k :: ks, _, .cons ⟨t, e⟩ r => by
    obtain ⟨h1, h2⟩ := vals_strs r
    refine ⟨by simp [h1], fun i v h => ?_⟩
    cases i with
    | zero =>
      simp at h
      exact ⟨k, t, rfl, by rw [← h]; exact e⟩
    | succ i => exact h2 i v (by simpa using h)
theorem cr_set1 (hc : X.calm = true) : CallR X (.type "set") (rSet1 X.K X.w) := by
  intro pins s σ H xs us Q I r h
  obtain ⟨l, ks, rfl, hl, hb, q⟩ := h
  rw [Vals.ref1 r]
  have fin : ∀ (h' : Heap) (tk : Nat), SetS X.w h' s.heap.objs.size (firstS [] ks) → (∀ b o, s.heap.get? b = some o → h'.get? b = some o) → EP X pins σ Q (.ref s.heap.objs.size) { s with heap := h', toks := tk } := fun h' tk R k =>
    ⟨.ref s.heap.objs.size, upd H s.heap.objs.size (SetSO X.w s.heap.objs.size (firstS [] ks)), I.laid (t' := tk) k (Nat.le_refl _) (setSO_new R), rfl, q _ (I.hok.fresh (Nat.le_refl _))⟩
  rcases hl with hl | hl
  · obtain ⟨its, rv, pl, hz⟩ := I.list (.inl hl)
    obtain ⟨v1, v2⟩ := vals_strs rv
    exact setS_call (P := X.prog) (w := X.w) ks (I.ok.hd hc) (.inl pl.isList) (fun i v h => v2 i v (by simpa using h)) (by simpa using v1) hb fin
  · obtain ⟨its, rv, pl, hz⟩ := I.tuple hl
    obtain ⟨v1, v2⟩ := vals_strs rv
    exact setS_call (P := X.prog) (w := X.w) ks (I.ok.hd hc) (.inr (show s.heap.IsTuple l its.toArray from pl)) (fun i v h => v2 i v (by simpa using h)) (by simpa using v1) hb fin
/-- len(a), a set of texts -/
def rLenS (w : World) : List V → Hp → VK → Prop := fun xs H Q => ∃ (a : Addr) (L : List Str), xs = [.ref a] ∧ H a = some (SetSO w a L) ∧ Q (.int L.length) H
theorem cr_lenS : CallR X (.builtin "len") (rLenS X.w) := by
  intro pins s σ H xs us Q I r h
  obtain ⟨a, L, rfl, ha, q⟩ := h
  have R : SetS X.w s.heap a L := (I.hok a _ ha).1
  rw [Vals.ref1 r]
  obtain ⟨o, es, ep, t, ⟨ho, hex, hd⟩, g, pL, nd, ⟨hb, hf⟩, hr, hl⟩ := R
  have hn : es.size = L.length := by
    have q := pL.length_eq
    rw [List.length_map, Array.length_toList] at q
    exact q
  have hs := fits_of_scanBound hb
  rw [sizeLine_eq] at hs
  exact call_len_set ho hex hd hf (by omega) ⟨.int L.length, H, I.tok _, ⟨_, by rw [hn]⟩, q⟩
theorem each_strs : ∀ {out : List Value} {ds : List PyData}, PySem.W.EachIs (fun u d => ∃ k t, d = PyData.str k ∧ u = Value.str k t) out ds → ∃ M : List Str, M.map PyData.str = ds ∧ Vals (M.map V.str) out
  | _, _, .nil => ⟨[], rfl, .nil⟩
  | _, _, .cons ⟨k, t, e1, e2⟩ r => by
    obtain ⟨M, h1, h2⟩ := each_strs r
    exact ⟨k :: M, by rw [List.map_cons, h1, e1], .cons ⟨t, e2⟩ h2⟩
theorem cr_set2 (hc : X.calm = true) (hu : X.A.units + 200 < cLine) : CallR X (.builtin "sorted") (rSet2 X.w) := by
  intro pins s σ H xs us Q I r h
  obtain ⟨a, L, rfl, ha, q⟩ := h
  have R : SetS X.w s.heap a L := (I.hok a _ ha).1
  rw [Vals.ref1 r]
  refine setS_sorted R (I.ok.hd hc) hu fun s' p out c k g o hp hg hlen ⟨L', pm, he⟩ => ?_
  obtain ⟨M, m1, m2⟩ := each_strs he
  rw [isort_strs pm] at m1
  have hz : (M.map V.str).length ≤ sizeLine := by
    rw [m2.length, hlen]
    obtain ⟨_, es, _, _, _, _, pL, _, ⟨hb, _⟩, _⟩ := R
    have q := pL.length_eq
    rw [List.length_map, Array.length_toList] at q
    rw [← q]
    exact fits_of_scanBound hb
  have hn : H p = none := I.hok.fresh hp
  have J : Inv X pins σ (upd H p (.lst (M.map V.str))) { s with heap := s'.heap, gens := s'.gens, drawn := s'.drawn, toks := s'.toks } :=
    I.call (ch := []) (Un.laid k hp hn) (I.hok.laid k hp ⟨hz, out, c, m2, hg⟩) (by rw [g]; exact I.bare) (fun _ z => nomatch z)
  have e : s' = { s with heap := s'.heap, gens := s'.gens, drawn := s'.drawn, toks := s'.toks } := by
    cases s'
    cases s
    cases o
    rfl
  rw [e]
  exact ⟨.ref p, _, J, rfl, q p M m1 hn⟩
theorem rp_strs {K : PySem.W.Frag} {F : Addr → Prop} {H : Hp} : ∀ {ks : List Str} {ws : List V}, RpAll K F H ws (ks.map PyData.str) → ws = ks.map V.str ∧ ∀ k ∈ ks, sOk k = true
  | [], _, .nil => ⟨rfl, by simp⟩
  | k :: ks, _, .cons r t => by
    obtain ⟨h1, h2⟩ := rp_strs t
    cases r with
    | str _ h => exact ⟨by rw [h1]; rfl, fun j hj => (List.mem_cons.mp hj).elim (fun e => e ▸ h) (h2 j)⟩
theorem strs_rp {K : PySem.W.Frag} {F : Addr → Prop} {H : Hp} : ∀ {ks : List Str}, (∀ k ∈ ks, sOk k = true) → RpAll K F H (ks.map V.str) (ks.map PyData.str)
  | [], _ => .nil
  | k :: ks, h => .cons (.str k (h k List.mem_cons_self)) (strs_rp fun j hj => h j (List.mem_cons_of_mem _ hj))
theorem firstS_sub {x : Str} : ∀ {ks L : List Str}, x ∈ firstS L ks → x ∈ L ∨ x ∈ ks
  | [], _, h => .inl h
  | k :: ks, L, h => by
    rcases firstS_sub (ks := ks) h with q | q
    · split at q
      · exact .inl q
      · rcases List.mem_append.mp q with q | q
        · exact .inl q
        · exact .inr (by rw [List.mem_singleton.mp q]; exact List.mem_cons_self)
    · exact .inr (List.mem_cons_of_mem _ q)
end
end Ra


set_option Elab.async false
set_option linter.all false
set_option autoImplicit false
set_option maxRecDepth 100000
/-! data that may be keys -/
namespace Ra
open PySem PySem.Spec PyProof.Rows L2
mutual
def keyN : PyData → NestedKey
  | .int i => .num i
  | .str x => .text x
  | .tuple xs => .tup (keyNs xs)
  | _ => .none
def keyNs : List PyData → List NestedKey
  | [] => []
  | x :: xs => keyN x :: keyNs xs
end
mutual
theorem reads_nest {h : Heap} : ∀ (d : PyData) {v : Value} {as : List Addr}, Reads h v d as → nestB d = true → NestedIs h (keyN d) v
  | .none, _, _, r, _ => by cases r; rw [keyN]; exact .none; all_goals simp
  | .int i, _, _, r, _ => by cases r; rw [keyN]; exact .int _ _
  | .str i, _, _, r, _ => by cases r; rw [keyN]; exact .text _ _
  | .tuple xs, _, _, r, hb => by
    rw [nestB] at hb
    cases r with
    | tuple h1 h2 h3 h4 => rw [keyN]; exact .tup h1 h2 h3 (reads_nests xs h4 hb)
  | .bool _, _, _, _, hb => by simp [nestB] at hb
  | .list _, _, _, _, hb => by simp [nestB] at hb
  | .dict _, _, _, _, hb => by simp [nestB] at hb
theorem reads_nests {h : Heap} : ∀ (ds : List PyData) {vs : List Value} {as : List Addr}, ReadsAll h vs ds as → nestBs ds = true → NestedAll h (keyNs ds) vs
  | [], _, _, r, _ => by cases r; rw [keyNs]; exact .nil
  | d :: ds, _, _, r, hb => by
    rw [nestBs, Bool.and_eq_true] at hb
    cases r with
    | cons a b => rw [keyNs]; exact .cons (reads_nest d a hb.1) (reads_nests ds b hb.2)
end
mutual
theorem keyN_inj : ∀ (x y : PyData), nestB x = true → nestB y = true → keyN x = keyN y → x = y
  | .none, y, _, h, e => by cases y <;> simp_all [keyN, nestB]
  | .int i, y, _, h, e => by cases y <;> simp_all [keyN, nestB]
  | .str i, y, _, h, e => by cases y <;> simp_all [keyN, nestB]
  | .tuple xs, y, hx, h, e => by
    cases y with
    | tuple ys =>
      rw [nestB] at hx h
      rw [keyN, keyN] at e
      injection e with e
      rw [keyNs_inj xs ys hx h e]
    | _ => simp_all [keyN, nestB]
  | .bool _, _, h, _, _ => by simp [nestB] at h
  | .list _, _, h, _, _ => by simp [nestB] at h
  | .dict _, _, h, _, _ => by simp [nestB] at h
theorem keyNs_inj : ∀ (xs ys : List PyData), nestBs xs = true → nestBs ys = true → keyNs xs = keyNs ys → xs = ys
  | [], [], _, _, _ => rfl
  | [], _ :: _, _, _, e => by simp [keyNs] at e
  | _ :: _, [], _, _, e => by simp [keyNs] at e
  | x :: xs, y :: ys, hx, hy, e => by
    rw [nestBs, Bool.and_eq_true] at hx hy
    rw [keyNs, keyNs] at e
    injection e with e1 e2
    rw [keyN_inj x y hx.1 hy.1 e1, keyNs_inj xs ys hx.2 hy.2 e2]
end
mutual
theorem keyN_depth : ∀ x : PyData, (keyN x).depth ≤ x.depth
  | .none => by simp [keyN, NestedKey.depth]
  | .int _ => by simp [keyN, NestedKey.depth]
  | .str _ => by simp [keyN, NestedKey.depth]
  | .bool _ => by simp [keyN, NestedKey.depth]
  | .list _ => by simp [keyN, NestedKey.depth]
  | .dict _ => by simp [keyN, NestedKey.depth]
  | .tuple xs => by
    rw [keyN, NestedKey.depth, PyData.depth]
    have := keyNs_depth xs
    omega
theorem keyNs_depth : ∀ xs : List PyData, NestedKey.depthAll (keyNs xs) ≤ PyData.depthAll xs
  | [] => by simp [keyNs, NestedKey.depthAll]
  | x :: xs => by
    rw [keyNs, NestedKey.depthAll, PyData.depthAll]
    have h1 := keyN_depth x
    have h2 := keyNs_depth xs
    omega
end
mutual
theorem eqv_nest : ∀ (x y : PyData), nestB x = true → nestB y = true → (PyData.eqv x y = true ↔ x = y)
  | .none, y, _, h => by cases y <;> simp_all [PyData.eqv, nestB]
  | .int i, y, _, h => by cases y <;> simp_all [PyData.eqv, nestB]
  | .str i, y, _, h => by cases y <;> simp_all [PyData.eqv, nestB]
  | .tuple xs, y, hx, h => by
    cases y with
    | tuple ys =>
      rw [nestB] at hx h
      rw [PyData.eqv, eqv_nests xs ys hx h]
      simp
    | _ => simp_all [PyData.eqv, nestB]
  | .bool _, _, h, _ => by simp [nestB] at h
  | .list _, _, h, _ => by simp [nestB] at h
  | .dict _, _, h, _ => by simp [nestB] at h
theorem eqv_nests : ∀ (xs ys : List PyData), nestBs xs = true → nestBs ys = true → (PyData.eqvAll xs ys = true ↔ xs = ys)
  | [], [], _, _ => by simp [PyData.eqvAll]
  | [], _ :: _, _, _ => by simp [PyData.eqvAll]
  | _ :: _, [], _, _ => by simp [PyData.eqvAll]
  | x :: xs, y :: ys, hx, hy => by
    rw [nestBs, Bool.and_eq_true] at hx hy
    rw [PyData.eqvAll, Bool.and_eq_true, eqv_nest x y hx.1 hy.1, eqv_nests xs ys hx.2 hy.2]
    simp
end
theorem eqv_nest_b {x y : PyData} (hx : nestB x = true) (hy : nestB y = true) (h : x ≠ y) : PyData.eqv x y = false := by
  cases e : PyData.eqv x y with
  | false => rfl
  | true => exact absurd ((eqv_nest x y hx hy).mp e) h
/-! the order is total -/
mutual
theorem lt_tri : ∀ (x y : PyData), nestB x = true → nestB y = true → PySem.W.alike x y = true → PySem.W.dataLt x y = false → PySem.W.dataLt y x = false → x = y
  | .none, y, _, h, al, _, _ => by cases y <;> simp_all [PySem.W.alike]
  | .int i, y, _, h, al, a, b => by
    cases y with
    | int j =>
      rw [PySem.W.dataLt_int, decide_eq_false_iff_not] at a b
      rw [show i = j by omega]
    | _ => simp [PySem.W.alike] at al
  | .str i, y, _, h, al, a, b => by
    cases y with
    | str j =>
      rw [PySem.W.dataLt_str, decide_eq_false_iff_not] at a b
      have e := List.le_antisymm (List.not_lt.mp b) (List.not_lt.mp a)
      rw [PySem.W.str_of_cps e]
    | _ => simp [PySem.W.alike] at al
  | .tuple xs, y, hx, h, al, a, b => by
    cases y with
    | tuple ys =>
      rw [nestB] at hx h
      rw [PySem.W.alike] at al
      rw [PySem.W.dataLt_tuple] at a b
      rw [lts_tri xs ys hx h al a b]
    | _ => simp [PySem.W.alike] at al
  | .bool _, _, h, _, _, _, _ => by simp [nestB] at h
  | .list _, _, h, _, _, _, _ => by simp [nestB] at h
  | .dict _, _, h, _, _, _, _ => by simp [nestB] at h
theorem lts_tri : ∀ (xs ys : List PyData), nestBs xs = true → nestBs ys = true → PySem.W.alikeAll xs ys = true → PyProof.Rows.lexLt PyProof.Rows.itemOrd (PySem.W.keyToksAll xs) (PySem.W.keyToksAll ys) = false → PyProof.Rows.lexLt PyProof.Rows.itemOrd (PySem.W.keyToksAll ys) (PySem.W.keyToksAll xs) = false → xs = ys
  | [], [], _, _, _, _, _ => rfl
  | [], y :: ys, _, _, _, a, _ => by
    rw [PySem.W.toks_all_cons, PySem.W.keyToksAll, PySem.W.lex_atom (by simp), PySem.W.lex_one] at a
    simp [PyProof.Rows.itemLt] at a
  | x :: xs, [], _, _, _, _, b => by
    rw [PySem.W.toks_all_cons, PySem.W.keyToksAll, PySem.W.lex_atom (by simp), PySem.W.lex_one] at b
    simp [PyProof.Rows.itemLt] at b
  | x :: xs, y :: ys, hx, hy, al, a, b => by
    rw [nestBs, Bool.and_eq_true] at hx hy
    obtain ⟨al1, al2⟩ := PySem.W.alike_all_cons al
    have al1' : PySem.W.alike y x = true := by rw [PySem.W.alike_comm]; exact al1
    by_cases e : x = y
    · subst e
      have ev := (eqv_nest x x hx.1 hy.1).mpr rfl
      rw [PySem.W.dataLt_all_yes al1 ev] at a b
      rw [lts_tri xs ys hx.2 hy.2 al2 a b]
    · have ev := eqv_nest_b hx.1 hy.1 e
      have ev' := eqv_nest_b hy.1 hx.1 fun z => e z.symm
      rw [PySem.W.dataLt_all_no al1 ev] at a
      rw [PySem.W.dataLt_all_no al1' ev'] at b
      exact absurd (lt_tri x y hx.1 hy.1 al1 a b) e
end
theorem dedup_snoc (k : PyData) : ∀ (ks acc : List PyData), dedup acc (ks ++ [k]) = if (dedup acc ks).any (fun y => PyData.eqv y k) = true then dedup acc ks else dedup acc ks ++ [k]
  | [], acc => by
    show (if (acc.any fun y => PyData.eqv y k) = true then acc.reverse else (k :: acc).reverse) = _
    rw [show dedup acc [] = acc.reverse from rfl, List.any_reverse]
    simp
  | x :: ks, acc => by
    rw [List.cons_append]
    unfold dedup
    split
    · exact dedup_snoc k ks acc
    · exact dedup_snoc k ks (x :: acc)
theorem dedup_mem {x : PyData} : ∀ {ks acc : List PyData}, x ∈ dedup acc ks → x ∈ acc ∨ x ∈ ks
  | [], acc, h => .inl (List.mem_reverse.mp h)
  | k :: ks, acc, h => by
    unfold dedup at h
    split at h
    · rcases dedup_mem h with q | q
      · exact .inl q
      · exact .inr (List.mem_cons_of_mem _ q)
    · rcases dedup_mem h with q | q
      · rcases List.mem_cons.mp q with rfl | q
        · exact .inr List.mem_cons_self
        · exact .inl q
      · exact .inr (List.mem_cons_of_mem _ q)
theorem dedup_len : ∀ (ks acc : List PyData), (dedup acc ks).length ≤ acc.length + ks.length
  | [], acc => by simp [dedup]
  | k :: ks, acc => by
    unfold dedup
    split
    · have := dedup_len ks acc
      simp; omega
    · have := dedup_len ks (k :: acc)
      simp at this ⊢; omega
theorem isort_nest {L L' : List PyData} (p : L'.Perm L) (hn : ∀ x ∈ L, nestB x = true) (ha : ∀ x ∈ L, ∀ y ∈ L, PySem.W.alike x y = true) : isort [] L' = isort [] L := by
  refine sorted_unique (fun x hx y hy h1 h2 => ?_) (isort_sorted _ _ .nil) (isort_sorted _ _ .nil) ((isort_perm _ []).trans (p.trans (isort_perm _ []).symm))
  have hx := p.mem_iff.mp ((isort_perm _ []).mem_iff.mp hx)
  have hy := p.mem_iff.mp ((isort_perm _ []).mem_iff.mp hy)
  rw [dle_eq] at h1 h2
  refine lt_tri x y (hn x hx) (hn y hy) (ha x hx y hy) ?_ ?_
  · simpa using h2
  · simpa using h1
theorem perm_map {α β : Type} {f : α → β} : ∀ {l l' : List β}, l.Perm l' → ∀ {D : List α}, l' = D.map f → ∃ D' : List α, D'.Perm D ∧ l = D'.map f := by
  intro l l' p
  induction p with
  | nil => intro D e; exact ⟨D, .refl _, e⟩
  | @cons x l1 l2 _ ih =>
    intro D e
    cases D with
    | nil => cases e
    | cons d D =>
      injection e with e1 e2
      obtain ⟨D', q1, q2⟩ := ih e2
      exact ⟨d :: D', q1.cons d, by rw [List.map_cons, ← q2, e1]⟩
  | swap x y l =>
    intro D e
    match D, e with
    | a :: b :: D, e =>
      injection e with e1 e2
      injection e2 with e2 e3
      exact ⟨b :: a :: D, .swap a b D, by rw [List.map_cons, List.map_cons, ← e3, ← e1, ← e2]⟩
  | trans _ _ ih1 ih2 =>
    intro D e
    obtain ⟨D1, q1, q2⟩ := ih2 e
    obtain ⟨D2, q3, q4⟩ := ih1 q2
    exact ⟨D2, q3.trans q1, q4⟩
end Ra


set_option Elab.async false
set_option linter.all false
set_option autoImplicit false
set_option maxRecDepth 100000
/-! sets of nested keys: what the model asks of a key -/
namespace Ra
open PySem PySem.Spec PyProof.Rows L2
/-- the key k stands at a -/
abbrev NK (h : Heap) (k : NestedKey) (a : Addr) : Prop := NestedIs h k (.ref a) ∧ k.depth ≤ 8
theorem nAll_mem {h : Heap} : ∀ {ks : List NestedKey} {vs : List Value}, NestedAll h ks vs → ∀ v ∈ vs, ∃ k, NestedIs h k v ∧ k.depth ≤ NestedKey.depthAll ks
  | [], _, .nil, v, hv => by cases hv
  | k :: ks, _, .cons a b, v, hv => by
    rcases List.mem_cons.mp hv with rfl | hv
    · exact ⟨k, a, by rw [NestedKey.depthAll]; exact Nat.le_max_left _ _⟩
    · obtain ⟨j, h1, h2⟩ := nAll_mem b v hv
      exact ⟨j, h1, by rw [NestedKey.depthAll]; exact Nat.le_trans h2 (Nat.le_max_right _ _)⟩
section
variable {P : Program} {w : World} {A : Around} {E : Value → Shared → Prop} {s : Shared}
theorem nk_class : ∀ (n : Nat) {k : NestedKey} {v : Value} {Q : Bool → Shared → Prop}, NestedIs s.heap k v → k.depth ≤ n → Q false s → wpAny (model P w) A (ofAClassStatement n v) Q E s := by
  intro n
  induction n with
  | zero =>
    intro k v Q hk hn hq
    cases hk with
    | tup _ _ _ _ => rw [NestedKey.depth] at hn; omega
    | _ => exact wpAny_pure hq
  | succ n ih =>
    intro k v Q hk hn hq
    cases hk with
    | @tup a o vs m ks ho hc hd hks =>
      rw [NestedKey.depth] at hn
      unfold ofAClassStatement
      refine wpAny_bind (wpAny_typeOf ⟨o, ho, hc⟩ ?_)
      dsimp only
      rw [if_pos (by decide)]
      refine wpAny_bind (wpAny_pure ?_)
      simp only [Bool.not_true, Bool.false_eq_true, if_false]
      show wpAny _ _ (seqItems? (.ref a) >>= _) _ _ s
      refine wpAny_bind (wpAny_seqItems ho hd ?_)
      dsimp only
      refine wpAny_bind ?_
      show wpAny _ _ (forIn vs _ _) _ _ s
      rw [← Array.forIn_toList]
      have hall : ∀ v ∈ vs.toList, ∃ j, NestedIs s.heap j v ∧ j.depth ≤ n := fun v hv => by
        obtain ⟨j, h1, h2⟩ := nAll_mem hks v hv
        exact ⟨j, h1, by omega⟩
      refine wpAny_forIn_list _ (fun rest r s' => s' = s ∧ r.1 = none ∧ ∀ v ∈ rest, v ∈ vs.toList) _ ?_ ?_ _ _ ⟨rfl, rfl, fun v h => h⟩
      · rintro v rest r s' ⟨rfl, hr, hs⟩
        obtain ⟨j, h1, h2⟩ := hall v (hs v List.mem_cons_self)
        refine wpAny_bind (ih h1 h2 ?_)
        simp only [Bool.false_eq_true, if_false]
        exact wpAny_pure ⟨rfl, rfl, fun u hu => hs u (List.mem_cons_of_mem _ hu)⟩
      · rintro ⟨r1, r2⟩ s' ⟨rfl, hr, _⟩
        simp only at hr
        subst hr
        exact wpAny_pure hq
    | _ => exact wpAny_pure hq
theorem nk_hashBy : ∀ (n : Nat) {k : NestedKey} {v : Value} {Q : Bool → Shared → Prop}, NestedIs s.heap k v → (∀ b, Q b s) → wpAny (model P w) A (hashByValue n v) Q E s := by
  intro n
  induction n with
  | zero =>
    intro k v Q hk hq
    cases hk <;> exact wpAny_pure (hq _)
  | succ n ih =>
    intro k v Q hk hq
    cases hk with
    | @tup a o vs m ks ho hc hd hks =>
      unfold hashByValue
      refine wpAny_bind (wpAny_specialOf ⟨o, ho, hc⟩ F.slot_tuple_hash.lookup ?_)
      show wpAny _ _ (seqItems? (.ref a) >>= _) _ _ s
      refine wpAny_bind (wpAny_seqItems ho hd ?_)
      refine wpAny_bind ?_
      show wpAny _ _ (forIn vs _ _) _ _ s
      rw [← Array.forIn_toList]
      refine wpAny_forIn_list _ (fun rest r s' => s' = s ∧ r.1 = none ∧ ∀ v ∈ rest, v ∈ vs.toList) _ ?_ ?_ _ _ ⟨rfl, rfl, fun v h => h⟩
      · rintro v rest r s' ⟨rfl, hr, hs⟩
        obtain ⟨j, h1, h2⟩ := nAll_mem hks v (hs v List.mem_cons_self)
        refine wpAny_bind (ih h1 fun b => ?_)
        cases b with
        | true =>
          simp only [Bool.not_true, Bool.false_eq_true, if_false]
          exact wpAny_pure ⟨rfl, rfl, fun u hu => hs u (List.mem_cons_of_mem _ hu)⟩
        | false =>
          simp only [Bool.not_false, if_true]
          exact wpAny_pure (wpAny_pure (hq _))
      · rintro ⟨r1, r2⟩ s' ⟨rfl, hr, _⟩
        simp only at hr
        subst hr
        exact wpAny_pure (hq _)
    | _ => exact wpAny_pure (hq _)
/-- a search among keys shows nothing -/
theorem nk_seen {k : NestedKey} {b : Addr} {Q : Bool → Shared → Prop} (hk : NK s.heap k b) {ys : List Value} (hy : ∀ y ∈ ys, ∃ j c, y = Value.ref c ∧ NK s.heap j c) (hq : Q false s) : wpAny (model P w) A (searchCouldBeSeen (.ref b) ys) Q E s := by
  unfold searchCouldBeSeen
  refine wpAny_bind ?_
  refine wpAny_forIn_list _ (fun rest r s' => s' = s ∧ r.1 = none ∧ ∀ y ∈ rest, y ∈ ys) _ ?_ ?_ _ _ ⟨rfl, rfl, fun y h => h⟩
  · rintro v rest r s' ⟨rfl, hr, hs⟩
    obtain ⟨j, c, rfl, hc⟩ := hy v (hs v List.mem_cons_self)
    have more : ∀ y ∈ rest, y ∈ ys := fun u hu => hs u (List.mem_cons_of_mem _ hu)
    dsimp only
    split
    · exact wpAny_pure ⟨rfl, rfl, more⟩
    · refine wpAny_bind (quiet_key k _ 8 s' hk.1 hk.2 _ _ _ ?_)
      simp only [Bool.not_true, Bool.false_eq_true, if_false]
      refine wpAny_bind (quiet_key j _ 8 s' hc.1 hc.2 _ _ _ ?_)
      simp only [Bool.not_true, Bool.false_eq_true, if_false]
      refine wpAny_bind (nk_class 8 hk.1 hk.2 ?_)
      simp only [Bool.false_eq_true, if_false]
      refine wpAny_bind (nk_class 8 hc.1 hc.2 ?_)
      simp only [Bool.false_eq_true, if_false]
      exact wpAny_pure ⟨rfl, rfl, more⟩
  · rintro ⟨r1, r2⟩ s' ⟨rfl, hr, _⟩
    simp only at hr
    subst hr
    exact wpAny_pure hq
theorem nk_eq {A : Around} {s : Shared} {j k : NestedKey} {a b : Addr} {Q : Bool → Shared → Prop} (hu : A.units + 8 < cLine) (ha : NK s.heap j a) (hb : NK s.heap k b) (hq : Q (decide (j = k)) s) : wpAny (model P w) A (PySem.eqBool (.ref a) (.ref b)) Q E s :=
  (nestedKind P w).eqBool (x := j) (y := k) hu ha hb hq
theorem nk_hash {A : Around} {s : Shared} {k : NestedKey} {a : Addr} {Q : Int → Shared → Prop} (hu : A.units + 8 < cLine) (ha : NK s.heap k a) (hq : Q (k.hash w) { s with toks := s.toks + k.draws }) : wpAny (model P w) A (PySem.pyHash (.ref a)) Q E s :=
  (nestedKind P w).pyHash (k := k) hu ha hq
end
/-- keys stay where only a set is changed -/
theorem nk_same {h h' : Heap} {k : NestedKey} {a b : Addr} {o : Obj} {es : Array (Int × Value)} {ep : Nat} {t : SetTable} (x : NK h k b) (ho : h.get? a = some o) (hd : o.data = .set es ep t) (hs : Heap.SameBut a h h') : NK h' k b :=
  ⟨NestedIs.at (fun c oc vs n e1 e2 => by
    refine (hs.2 c fun e => ?_).trans e1
    subst e
    rw [ho] at e1
    cases e1
    rw [hd] at e2
    cases e2) k _ x.1, x.2⟩
theorem nk_keep {h h' : Heap} {k : NestedKey} {b : Addr} (x : NK h k b) (e : ∀ c o, h.get? c = some o → h'.get? c = some o) : NK h' k b :=
  ⟨NestedIs.at (fun c oc vs n e1 _ => e c oc e1) k _ x.1, x.2⟩
end Ra


set_option Elab.async false
set_option linter.all false
set_option autoImplicit false
set_option maxRecDepth 100000
/-! sets of nested keys: one key is looked for, put in -/
namespace Ra
open PySem PySem.Spec PyProof.Rows L2
abbrev Ent := Addr × NestedKey
def entR (w : World) (p : Ent) : Int × Value := (p.2.hash w, Value.ref p.1)
/-- the set at a holds the keys L, in the order of its rows -/
structure SetN (w : World) (h : Heap) (a : Addr) (L : List Ent) (es : Array (Int × Value)) (ep : Nat) (t : SetTable) : Prop where
  ob : ∃ o, h.get? a = some o ∧ o.ExactSet ∧ o.data = .set es ep t
  rows : es.toList = L.map (entR w)
  tab : TabOk t (L.map fun p => p.2.hash w)
  nd : (L.map (·.2)).Nodup
  keys : ∀ p ∈ L, NK h p.2 p.1
  led : w.params.followText "set-order" = true ∨ t.led = true
  room : L.length * 5 < t.mask * 3
  few : L.length < 64
/-- the probe at step c of the way of a hash -/
abbrev prb (m : Nat) (h : Int) (c : Nat) : SetTable.Probe := nth m (runAt m (SetTable.bits h % (m + 1)) (SetTable.bits h)) c
theorem prb_add (m : Nat) (h : Int) (c q : Nat) : nth m (prb m h c) q = prb m h (c + q) := (nth_add m c _ q).symm
theorem nth_nodummy (m : Nat) : ∀ (n : Nat) (p : SetTable.Probe), p.dummy = none → (nth m p n).dummy = none
  | 0, _, h => h
  | n + 1, p, h => nth_nodummy m n (adv m p) (by unfold adv; split <;> exact h)
section
variable {P : Program} {w : World} {A : Around} {E : Value → Shared → Prop} {s : Shared} {a : Addr} {L : List Ent} {es : Array (Int × Value)} {ep : Nat} {t : SetTable}
theorem SetN.size {h : Heap} (R : SetN w h a L es ep t) : es.size = L.length := by
  rw [← Array.length_toList, R.rows, List.length_map]
theorem SetN.psz {h : Heap} (R : SetN w h a L es ep t) : t.place.size = L.length := by
  rw [R.tab.sz, List.length_map]
theorem SetN.fits {h : Heap} (R : SetN w h a L es ep t) : t.fits es.size = true := by
  have h2 := R.size
  have h1 := R.psz
  have h3 := R.room
  unfold SetTable.fits SetTable.fill
  simp only [R.tab.dm, Bool.and_eq_true, beq_iff_eq, decide_eq_true_eq]
  have : (#[] : Array Nat).size = 0 := rfl
  omega
theorem SetN.row {h : Heap} (R : SetN w h a L es ep t) {i : Nat} {p : Ent} (q : L[i]? = some p) : es[i]? = some (entR w p) := by
  rw [← Array.getElem?_toList, R.rows, List.getElem?_map, q]
  rfl
/-- the first empty place of the way is the K-th: what the search from step c on comes to -/
theorem setN_from (R : SetN w s.heap a L es ep t) {x : Addr} {k : NestedKey} (hx : NK s.heap k x) (hu : A.units + 8 < cLine) {K : Nat} (hKf : K < 10 * SetTable.turns t.mask)
    (hK : (prb t.mask (k.hash w) K).j ∉ t.place.toList) (hb : ∀ c, c < K → (prb t.mask (k.hash w) c).j ∈ t.place.toList) {Q : SetFound → Shared → Prop}
    (yes : k ∈ L.map (·.2) → Q (.there none) s) (no : k ∉ L.map (·.2) → Q (.free (prb t.mask (k.hash w) K).j false) s) : ∀ (f c : Nat) (stand : Option SetTable.Probe), stand.getD (t.probeStart (k.hash w)) = prb t.mask (k.hash w) c → c ≤ K → K - c < f →
      (∀ (i : Nat) p, L[i]? = some p → p.2 = k → ∃ c', c ≤ c' ∧ c' < K ∧ t.place.toList[i]? = some (prb t.mask (k.hash w) c').j) → wpAny (model P w) A (setSearchFrom a (.ref x) (k.hash w) true f stand) Q E s := by
  obtain ⟨o, ho, hex, hd⟩ := id R.ob
  intro f
  induction f with
  | zero => intro c stand _ _ z; omega
  | succ f ih =>
    intro c stand hst hc hf hre
    rw [setSearchFrom_succ]
    refine wpAny_bind (wpAny_setState_of ho hd R.fits ?_)
    dsimp only
    have hgw : ¬ t.gaveWay = true := by
      unfold SetTable.gaveWay
      rw [mask_odd R.tab.mok]
      decide
    refine wp_if_neg hgw ?_
    try refine wpAny_bind (wpAny_pure ?_)
    have spec := go_spec t R.tab.ris R.tab.dm (fun i => (es[i]?.map (·.1)).getD 0) (k.hash w) (10 * SetTable.turns t.mask) (K - c) (prb t.mask (k.hash w) c) (nth_nodummy _ _ _ rfl) (by omega)
      (fun q hq => by rw [prb_add]; exact hb (c + q) (by omega)) (by rw [prb_add, show c + (K - c) = K by omega]; exact hK)
    have hat : ∀ (i : Nat) p, L[i]? = some p → (es[i]?.map (·.1)).getD 0 = p.2.hash w := fun i p hp => by rw [R.row hp]; rfl
    rcases spec with ⟨q, i, hq, hi, hh, hno, hpr⟩ | ⟨hno, hpr⟩
    · rw [prb_add, prb_add] at hpr
      rw [prb_add] at hi
      have hpr' : t.probe (fun i => (es[i]?.map (·.1)).getD 0) (k.hash w) (stand.getD (t.probeStart (k.hash w))) = some (.candidate (prb t.mask (k.hash w) (c + q)).j i (prb t.mask (k.hash w) (c + (q + 1)))) := by
        rw [hst]; exact hpr
      rw [hpr']
      dsimp only
      have hil : i < L.length := by
        have h1 := (List.getElem?_eq_some_iff.mp hi).1
        rw [Array.length_toList, R.psz] at h1
        exact h1
      obtain ⟨p, hp⟩ : ∃ p, L[i]? = some p := ⟨_, List.getElem?_eq_getElem hil⟩
      have hm : p ∈ L := List.mem_of_getElem? hp
      have rest : wpAny (model P w) A (searchRest a (.ref x) (k.hash w) true f es t (prb t.mask (k.hash w) (c + q)).j i (prb t.mask (k.hash w) (c + (q + 1)))) Q E s := by
        unfold searchRest
        rw [R.row hp]
        dsimp only [entR]
        refine wpAny_bind (wpAny_holding (nk_eq hu (R.keys p hm) hx ?_))
        refine wpAny_bind (wpAny_setState_of ho hd R.fits ?_)
        dsimp only
        by_cases hkk : p.2 = k
        · refine wp_if_pos (by simp [hkk]) ?_
          exact wpAny_pure (yes (List.mem_map.mpr ⟨p, hm, hkk⟩))
        · refine wp_if_neg (by simp [hkk]) ?_
          try refine wpAny_bind (wpAny_pure ?_)
          have hsl : t.slot (prb t.mask (k.hash w) (c + q)).j = .live i := slot_live R.tab.ris hi
          rw [sameMem]
          dsimp only
          simp only [if_true, hsl, R.row hp, entR]
          refine wpAny_bind (wpAny_isSame_ref_self (wpAny_bind (wpAny_pure ?_)))
          simp only [if_true]
          refine wp_if_neg (by simp [hkk]) ?_
          refine ih (c + (q + 1)) _ rfl (by omega) (by omega) fun i0 p0 h0 hk0 => ?_
          obtain ⟨c', a1, a2, a3⟩ := hre i0 p0 h0 hk0
          refine ⟨c', ?_, a2, a3⟩
          by_cases z : c' < c + q
          · exact absurd ((hat i0 p0 h0).trans (by rw [hk0])) (hno (c' - c) i0 (by omega) (by rw [prb_add, show c + (c' - c) = c' by omega]; exact a3))
          · by_cases y : c' = c + q
            · subst y
              have s0 := slot_live R.tab.ris a3
              rw [hsl] at s0
              injection s0 with s0
              rw [← s0, hp] at h0
              cases h0
              exact absurd hk0 hkk
            · omega
      by_cases hl : t.led = true
      · refine wp_if_neg (by simp [hl]) ?_
        try refine wpAny_bind (wpAny_pure ?_)
        exact rest
      · refine wp_if_pos (by simp [hl]) ?_
        refine wpAny_bind (nk_seen hx (fun y hy => ?_) ?_)
        · obtain ⟨e, he, ee⟩ := List.mem_map.mp hy
          have he2 : e ∈ es.toList := by
            have : e ∈ es ∧ e.1 = k.hash w := by simpa using he
            simpa using this.1
          rw [R.rows] at he2
          obtain ⟨p2, hp2, e2⟩ := List.mem_map.mp he2
          exact ⟨p2.2, p2.1, by rw [← ee, ← e2]; rfl, R.keys p2 hp2⟩
        · refine wp_if_neg (by decide) ?_
          try refine wpAny_bind (wpAny_pure ?_)
          exact rest
    · rw [prb_add, show c + (K - c) = K by omega] at hpr
      have hpr' : t.probe (fun i => (es[i]?.map (·.1)).getD 0) (k.hash w) (stand.getD (t.probeStart (k.hash w))) = some (.empty (prb t.mask (k.hash w) K).j none) := by
        rw [hst]; exact hpr
      rw [hpr']
      dsimp only
      refine wpAny_pure (no fun hm => ?_)
      obtain ⟨p0, h0, hk0⟩ := List.mem_map.mp hm
      obtain ⟨i0, h00⟩ := List.getElem?_of_mem h0
      obtain ⟨c', a1, a2, a3⟩ := hre i0 p0 h00 hk0
      exact hno (c' - c) i0 (by omega) (by rw [prb_add, show c + (c' - c) = c' by omega]; exact a3) ((hat i0 p0 h00).trans (by rw [hk0]))
theorem setN_search (R : SetN w s.heap a L es ep t) {x : Addr} {k : NestedKey} (hx : NK s.heap k x) (hu : A.units + 8 < cLine) {Q : SetFound → Shared → Prop} (yes : k ∈ L.map (·.2) → Q (.there none) s)
    (no : ∀ K, k ∉ L.map (·.2) → (prb t.mask (k.hash w) K).j ∉ t.place.toList → (∀ c, c < K → (prb t.mask (k.hash w) c).j ∈ t.place.toList) → Q (.free (prb t.mask (k.hash w) K).j false) s) : wpAny (model P w) A (setSearch a (.ref x) (k.hash w) true) Q E s := by
  have hroom := R.room
  obtain ⟨K, hKf, hK, hb⟩ := R.tab.first (by rw [List.length_map]; omega) (k.hash w)
  have hbig : 10 * SetTable.turns t.mask ≤ 1420 := by
    unfold SetTable.turns
    rcases R.tab.mok with e | e | e <;> omega
  unfold setSearch
  refine setN_from R hx hu hKf hK hb yes (fun hn => no K hn hK hb) 100000 0 none rfl (Nat.zero_le _) (by omega) fun i p hp hk => ?_
  have hil : i < t.place.toList.length := by
    rw [Array.length_toList, R.psz]
    exact (List.getElem?_eq_some_iff.mp hp).1
  have hj := List.getElem?_eq_getElem hil
  obtain ⟨c, hc, e⟩ := R.tab.before hK (i := i) (by rw [List.getElem?_map, hp, ← hk]; rfl) hj
  exact ⟨c, Nat.zero_le _, hc, by rw [hj, ← e]⟩
end
end Ra


set_option Elab.async false
set_option linter.all false
set_option autoImplicit false
set_option maxRecDepth 100000
/-! sets of nested keys: a larger table; one key more -/
namespace Ra
open PySem PySem.Spec PyProof.Rows L2
theorem filterMap_get {α : Type} (L : List α) : ∀ n, n ≤ L.length → (List.range n).filterMap (fun i => L[i]?) = L.take n
  | 0, _ => rfl
  | n + 1, h => by
    rw [List.range_succ, List.filterMap_append, filterMap_get L n (by omega), List.take_succ, List.getElem?_eq_getElem (by omega : n < L.length)]
    simp [List.getElem?_eq_getElem (by omega : n < L.length)]
theorem rows_by {w : World} {L : List Ent} {es : Array (Int × Value)} (hr : es.toList = L.map (entR w)) : ∀ l : List Nat, (∀ i ∈ l, i < L.length) →
    l.filterMap (fun i => es[i]?) = (l.filterMap fun i => L[i]?).map (entR w) ∧ ((l.filterMap fun i => L[i]?).map fun p => p.2.hash w) = l.map fun i => (es.map (·.1)).getD i 0
  | [], _ => ⟨rfl, rfl⟩
  | i :: l, h => by
    obtain ⟨e1, e2⟩ := rows_by hr l fun j hj => h j (List.mem_cons_of_mem _ hj)
    have hi := h i List.mem_cons_self
    have g : L[i]? = some L[i] := List.getElem?_eq_getElem hi
    have q : es[i]? = some (entR w L[i]) := by
      rw [← Array.getElem?_toList, hr, List.getElem?_map, g]
      rfl
    have q2 : (es.map (·.1)).getD i 0 = L[i].2.hash w := by
      have : (es.map (·.1))[i]? = some (L[i].2.hash w) := by rw [Array.getElem?_map, q]; rfl
      simp [Array.getD_eq_getD_getElem?, this]
    refine ⟨?_, ?_⟩
    · rw [List.filterMap_cons_some q, List.filterMap_cons_some g, e1, List.map_cons]
    · rw [List.filterMap_cons_some g, List.map_cons, List.map_cons, e2, q2]
section
variable {P : Program} {w : World} {A : Around} {E : Value → Shared → Prop} {s : Shared} {a : Addr} {L : List Ent} {es : Array (Int × Value)} {ep : Nat} {t : SetTable}
theorem setN_relay {o : Obj} (ho : s.heap.get? a = some o) (hex : o.ExactSet) (hd : o.data = .set es ep t) (hrows : es.toList = L.map (entR w)) (hsz : t.place.size = es.size) (hdm : t.dummies = #[]) (hfl : es.size ≤ t.mask)
    (nd : (L.map (·.2)).Nodup) (keys : ∀ p ∈ L, NK s.heap p.2 p.1) (ld : w.params.followText "set-order" = true ∨ t.led = true) (few : L.length < 64) {wanted M : Nat}
    (hw : SetTable.sizeAbove wanted - 1 = M) (hM : MaskOk M) (hw2 : SetTable.sizeAbove wanted ≤ 128) (hn : L.length * 5 < M * 3) {Q : Unit → Shared → Prop}
    (hQ : ∀ h' L' es' ep' t', Heap.SameBut a s.heap h' → SetN w h' a L' es' ep' t' → L'.Perm L → Q () { s with heap := h' }) : wpAny (model P w) A (setRelay a wanted) Q E s := by
  have hsl : es.size = L.length := by rw [← Array.length_toList, hrows, List.length_map]
  have hfits : t.fits es.size = true := by
    unfold SetTable.fits SetTable.fill
    simp only [hdm, Bool.and_eq_true, beq_iff_eq, decide_eq_true_eq]
    have : (#[] : Array Nat).size = 0 := rfl
    omega
  obtain ⟨t', order, e, hp, T, em, el, _, ed⟩ := relaid_ok t (hs := es.map (·.1)) (wanted := wanted) hw hM (by rw [Array.size_map, hsl]; omega)
  rw [Array.size_map, hsl] at hp
  obtain ⟨r1, r3⟩ := rows_by hrows order.toList fun i hi => List.mem_range.mp (hp.mem_iff.mp hi)
  have r2 : (order.toList.filterMap fun i => L[i]?).Perm L := by
    have q := hp.filterMap fun i => L[i]?
    rw [filterMap_get L L.length (Nat.le_refl _), List.take_length] at q
    exact q
  rw [← r3] at T
  have r1' : (order.filterMap (es[·]?)).toList = (order.toList.filterMap fun i => L[i]?).map (entR w) := by
    first | (rw [Array.toList_filterMap]; exact r1) | simpa using r1
  generalize (order.toList.filterMap fun i => L[i]?) = L2 at r1' r2 T
  have hs2 : (order.filterMap (es[·]?)).size = es.size := by
    rw [← Array.length_toList, r1', List.length_map, r2.length_eq, hsl]
  rw [setRelay_eq]
  refine wpAny_bind (wpAny_setState_of ho hd hfits ?_)
  dsimp only
  refine wp_if_neg (by rw [sizeLine_eq]; omega) ?_
  try refine wpAny_bind (wpAny_pure ?_)
  rw [e]
  dsimp only
  refine wpAny_bind ?_
  refine wp_if_neg (by rw [hs2]; simp) ?_
  try refine wpAny_bind (wpAny_pure ?_)
  refine wpAny_pure ?_
  dsimp only
  refine wpAny_storeSet_of ho hd ?_ (by rw [hs2, hsl, sizeLine_eq]; omega)
  have sb : Heap.SameBut a s.heap (s.heap.update a (Obj.putSet (order.filterMap (es[·]?)) t')) := Heap.SameBut.update ..
  refine hQ _ L2 (order.filterMap (es[·]?)) (ep + 1) t' sb ⟨⟨_, store_at ho hd, ⟨hex.1, hex.2.1, hex.2.2⟩, rfl⟩, r1', T, (r2.map (·.2)).nodup_iff.mpr nd, fun p hpm => nk_same (keys p (r2.mem_iff.mp hpm)) ho hd sb, by rw [el]; exact ld, ?_, ?_⟩ r2
  · rw [r2.length_eq, em]
    exact hn
  · rw [r2.length_eq]
    exact few
theorem setN_add (R : SetN w s.heap a L es ep t) {x : Addr} {k : NestedKey} (hx : NK s.heap k x) (hu : A.units + 8 < cLine) (hfew : L.length + 1 < 64) {Q : Bool → Shared → Prop}
    (hQ : ∀ b h' L' es' ep' t', Heap.SameBut a s.heap h' → SetN w h' a L' es' ep' t' → (k ∈ L.map (·.2) → L' = L) → (k ∉ L.map (·.2) → L'.Perm ((x, k) :: L)) → Q b { s with heap := h' }) :
    wpAny (model P w) A (setAddHashed a (.ref x) (k.hash w)) Q E s := by
  obtain ⟨o, ho, hex, hd⟩ := R.ob
  have hsl := R.size
  have hroom := R.room
  unfold setAddHashed
  refine wpAny_holding ?_
  rw [show (100000 : Nat) = 99999 + 1 from rfl, setAddHashedIn_succ]
  refine wpAny_bind (wpAny_setState_of ho hd R.fits ?_)
  dsimp only
  refine wp_if_neg (by simp [byScan, Value.scannable]) ?_
  try refine wpAny_bind (wpAny_pure ?_)
  refine wpAny_bind (setN_search R hx hu (fun hm => ?_) fun K hm hK hb => ?_)
  · dsimp only
    exact wpAny_pure (hQ false s.heap L es ep t (Heap.SameBut.refl a s.heap) R (fun _ => rfl) fun z => absurd hm z)
  dsimp only
  refine wpAny_bind (wpAny_setState_of ho hd R.fits ?_)
  dsimp only
  obtain ⟨q1, q2, q3, q4, q5, q6, q7, q8, q9⟩ := R.tab.put hK hb
  have hput : t.put (prb t.mask (k.hash w) K).j = ((t.put (prb t.mask (k.hash w) K).j).1, SetTable.below t.place (prb t.mask (k.hash w) K).j) := by
    rw [← q1]
  rw [hput]
  dsimp only
  have q3' : TabOk (t.put (prb t.mask (k.hash w) K).j).1 ((L.take (SetTable.below t.place (prb t.mask (k.hash w) K).j) ++ (x, k) :: L.drop (SetTable.below t.place (prb t.mask (k.hash w) K).j)).map fun p => p.2.hash w) := by
    rw [List.map_append, List.map_cons, List.map_take, List.map_drop]
    exact q3
  have hin : (SetTable.insertAt es (SetTable.below t.place (prb t.mask (k.hash w) K).j) (k.hash w, Value.ref x)).toList = (L.take (SetTable.below t.place (prb t.mask (k.hash w) K).j) ++ (x, k) :: L.drop (SetTable.below t.place (prb t.mask (k.hash w) K).j)).map (entR w) := by
    rw [SetTable.toList_insertAt, R.rows, List.map_append, List.map_cons, List.map_take, List.map_drop]
    rfl
  generalize hpp : SetTable.below t.place (prb t.mask (k.hash w) K).j = p at hin q3' ⊢
  clear hput q1 q2 q3 hpp
  generalize (t.put (prb t.mask (k.hash w) K).j).1 = t0 at q3' q4 q5 q6 q7 q8 q9 ⊢
  have pm : (L.take p ++ (x, k) :: L.drop p).Perm ((x, k) :: L) := put_perm L p (x, k)
  generalize L.take p ++ (x, k) :: L.drop p = L1 at pm hin q3'
  generalize SetTable.insertAt es p (k.hash w, Value.ref x) = es1 at hin ⊢
  have hlen : L1.length = L.length + 1 := pm.length_eq
  have hes : es1.size = L.length + 1 := by rw [← Array.length_toList, hin, List.length_map, hlen]
  have nd1 : (L1.map (·.2)).Nodup := by
    refine (pm.map (·.2)).nodup_iff.mpr ?_
    rw [List.map_cons]
    exact List.nodup_cons.mpr ⟨hm, R.nd⟩
  have key : ∀ t1 : SetTable, TabOk t1 (L1.map fun p => p.2.hash w) → t1.mask = t.mask → t1.led = t.led → t1.fill = L.length + 1 → wpAny (model P w) A (do
      storeSet a es1 t1
      if (!false && t1.tooFull) = true then setRelay a (SetTable.grown (es.size + 1))
      return true) Q E s := fun t1 T em el ef => by
    refine wpAny_bind (wpAny_storeSet_of ho hd ?_ (by rw [hes, sizeLine_eq]; omega))
    have sb : Heap.SameBut a s.heap (s.heap.update a (Obj.putSet es1 t1)) := Heap.SameBut.update ..
    have ho1 := store_at (es' := es1) (t' := t1) ho hd
    generalize s.heap.update a (Obj.putSet es1 t1) = h1 at sb ho1 ⊢
    have keys1 : ∀ p ∈ L1, NK h1 p.2 p.1 := fun p hp => by
      rcases List.mem_cons.mp (pm.mem_iff.mp hp) with e | hp
      · rw [e]; exact nk_same hx ho hd sb
      · exact nk_same (R.keys p hp) ho hd sb
    have ld1 : w.params.followText "set-order" = true ∨ t1.led = true := by rw [el]; exact R.led
    by_cases hf : t1.tooFull = true
    · first
        | (refine wpAny_bind ?_; refine wp_if_pos (by simp [hf]) ?_)
        | (refine wp_if_pos (by simp [hf]) ?_; refine wpAny_bind ?_)
      have hfull : (L.length + 1) * 5 ≥ t.mask * 3 := by
        have h := hf
        unfold SetTable.tooFull at h
        rw [decide_eq_true_eq, ef, em] at h
        exact h
      have hsz1 : t1.place.size = es1.size := by
        have h := T.sz
        rw [List.length_map, hlen] at h
        rw [h, hes]
      have go : ∀ M, SetTable.sizeAbove (SetTable.grown (L.length + 1)) - 1 = M → MaskOk M → SetTable.sizeAbove (SetTable.grown (L.length + 1)) ≤ 128 → (L.length + 1) * 5 < M * 3 → L.length + 1 ≤ t.mask →
          wpAny (model P w) A (setRelay a (SetTable.grown (L.length + 1))) (fun _ s' => wpAny (model P w) A (pure true) Q E s') E { s with heap := h1 } := fun M h1' h2' h3' h4' h5' => by
        refine setN_relay (s := { s with heap := h1 }) ho1 ⟨hex.1, hex.2.1, hex.2.2⟩ rfl hin hsz1 T.dm (by rw [hes, em]; exact h5') nd1 keys1 ld1 (by rw [hlen]; exact hfew) h1' h2' h3' (by rw [hlen]; exact h4') ?_
        intro h2 L2 es2 ep2 t2 sb2 R2 pm2
        exact wpAny_pure (hQ true h2 L2 es2 ep2 t2 (sb.trans sb2) R2 (fun z => absurd z hm) fun _ => pm2.trans pm)
      rw [hsl]
      rcases R.tab.mok with e | e | e
      · have e2 : L.length = 4 := by omega
        exact go 31 (by rw [e2, size_20]) (.inr (.inl rfl)) (by rw [e2, size_20]; decide) (by omega) (by omega)
      · have e2 : L.length = 18 := by omega
        exact go 127 (by rw [e2, size_76]) (.inr (.inr rfl)) (by rw [e2, size_76]; decide) (by omega) (by omega)
      · omega
    · first
        | refine wp_if_neg (by simp [hf]) ?_
        | (refine wpAny_bind ?_; refine wp_if_neg (by simp [hf]) ?_; refine wpAny_pure ?_)
      refine wpAny_pure (hQ true h1 L1 es1 (ep + 1) t1 sb ⟨⟨_, ho1, ⟨hex.1, hex.2.1, hex.2.2⟩, rfl⟩, hin, T, nd1, keys1, ld1, ?_, by rw [hlen]; exact hfew⟩ (fun z => absurd z hm) fun _ => pm)
      have h := hf
      unfold SetTable.tooFull at h
      rw [decide_eq_true_eq, ef, em] at h
      rw [hlen, em]
      omega
  rw [List.length_map] at q9
  have ask : ∀ b : Bool, wpAny (model P w) A (do
      storeSet a es1 (if b = true then t0 else { t0 with plain := false })
      if (!false && (if b = true then t0 else { t0 with plain := false }).tooFull) = true then setRelay a (SetTable.grown (es.size + 1))
      return true) Q E s := fun b => by
    cases b with
    | true => exact key t0 q3' q4 q5 q9
    | false => exact key { t0 with plain := false } ⟨q3'.ris, q3'.dm, q3'.sz, q3'.mok, q3'.bd, q3'.reach⟩ q4 q5 q9
  by_cases hpl : t0.plain = true
  · refine wp_if_pos hpl (wpAny_bind (nk_hashBy 8 hx.1 fun b => ask b))
  · refine wp_if_neg hpl (wpAny_bind (wpAny_pure (ask true)))
end
end Ra


set_option Elab.async false
set_option linter.all false
set_option autoImplicit false
set_option maxRecDepth 100000
/-! set(xs), sorted(set), len(set): nested keys -/
namespace Ra
open PySem PySem.Spec PyProof.Rows L2
abbrev Dat := Addr × PyData
def entD (q : Dat) : Ent := (q.1, keyN q.2)
/-- .. whatever the keys are in the heap -/
def SetN0 (w : World) (h : Heap) (a : Addr) (L : List Ent) : Prop := ∃ es ep t, (∃ o, h.get? a = some o ∧ o.ExactSet ∧ o.data = .set es ep t) ∧ es.toList = L.map (entR w) ∧ TabOk t (L.map fun p => p.2.hash w) ∧ (L.map (·.2)).Nodup ∧
  (w.params.followText "set-order" = true ∨ t.led = true) ∧ L.length * 5 < t.mask * 3 ∧ L.length < 64
theorem SetN.off {w : World} {h : Heap} {a : Addr} {L : List Ent} {es : Array (Int × Value)} {ep : Nat} {t : SetTable} (R : SetN w h a L es ep t) : SetN0 w h a L := ⟨es, ep, t, R.ob, R.rows, R.tab, R.nd, R.led, R.room, R.few⟩
theorem SetN0.on {w : World} {h : Heap} {a : Addr} {L : List Ent} (R : SetN0 w h a L) (hk : ∀ p ∈ L, NK h p.2 p.1) : ∃ es ep t, SetN w h a L es ep t := by
  obtain ⟨es, ep, t, a1, a2, a3, a4, a5, a6, a7⟩ := R
  exact ⟨es, ep, t, a1, a2, a3, a4, hk, a5, a6, a7⟩
theorem SetN0.keep {w : World} {h h' : Heap} {a : Addr} {L : List Ent} (R : SetN0 w h a L) (k : ∀ o, h.get? a = some o → h'.get? a = some o) : SetN0 w h' a L := by
  obtain ⟨es, ep, t, ⟨o, ho, r⟩, q⟩ := R
  exact ⟨es, ep, t, ⟨o, k o ho, r⟩, q⟩
theorem setN_fresh {w : World} {h : Heap} {a : Addr} (ho : h.get? a = some (newSet w)) : SetN0 w h a [] :=
  ⟨#[], 0, _, ⟨_, ho, ⟨rfl, rfl, rfl⟩, rfl⟩, rfl, ⟨List.Pairwise.nil, rfl, rfl, .inl rfl, fun x hx => (by cases hx), fun i h j hi => (by simp at hi)⟩, List.nodup_nil, by
    show _ ∨ (!w.params.followText "set-order") = true
    cases w.params.followText "set-order"
    · exact .inr rfl
    · exact .inl rfl, by show 0 * 5 < 7 * 3; decide, by show 0 < 64; decide⟩
theorem keyTup_at {ds : List PyData} (h : keyTup ds = true) {d : PyData} (hd : d ∈ ds) : (∃ x r, d = .tuple (x :: r)) ∧ nestB d = true ∧ d.depth ≤ 8 := by
  have q := List.all_eq_true.mp h d hd
  simp only [Bool.and_eq_true, decide_eq_true_eq] at q
  refine ⟨?_, q.1.2, q.2⟩
  have q1 := q.1.1
  unfold isTupC at q1
  split at q1
  · exact ⟨_, _, rfl⟩
  · cases q1
section
variable {P : Program} {w : World} {A : Around} {E : Value → Shared → Prop} {s : Shared} {a : Addr}
theorem setN_call {l : Addr} {its : Array Value} {ads : List Addr} {ds : List PyData} {Q : Value → Shared → Prop} (hh : A.handled = none) (hl : s.heap.IsList l its ∨ s.heap.IsTuple l its) (hits : its.toList = ads.map Value.ref) (hlen : ads.length = ds.length)
    (hk : ∀ q ∈ ads.zip ds, NK s.heap (keyN q.2) q.1) (hkt : keyTup ds = true) (hfew : ds.length < 64) (hu : A.units + 20 < cLine)
    (h : ∀ (h' : Heap) (tk : Nat) (D : List Dat), SetN0 w h' s.heap.objs.size (D.map entD) → (D.map (·.2)).Perm (dedup [] ds) → (∀ q ∈ D, q ∈ ads.zip ds) → (∀ b o, s.heap.get? b = some o → h'.get? b = some o) → Q (.ref s.heap.objs.size) { s with heap := h', toks := tk }) :
    wpAny (model P w) A (call (.type "set") [.ref l]) Q E s := by
  have hsz : its.size = ds.length := by rw [← Array.length_toList, hits, List.length_map, hlen]
  refine setG_call (fun (i : Nat) (h : Heap) => (∀ b o, s.heap.get? b = some o → h.get? b = some o) ∧ ∃ D : List Dat, SetN0 w h s.heap.objs.size (D.map entD) ∧ (D.map (fun q : Dat => q.2)).Perm (dedup [] (ds.take i)) ∧ ∀ q ∈ D, q ∈ ads.zip ds) hh hl
    (fun h e e2 => ⟨e, [], setN_fresh e2, by simp [dedup], by simp⟩) (fun i h h' ⟨k, D, x1, x2, x3⟩ e => ⟨fun b o q => e b o (Nat.le_of_lt (Heap.lt_size q)) (k b o q), D, x1.keep fun o q => e _ o (Nat.le_refl _) q, x2, x3⟩) ?_ ?_
  · rintro A' i v s' E' Q' hA hv ⟨k, D, x1, x2, x3⟩ hQ
    have hi : its.toList[i]? = some v := by rw [Array.getElem?_toList]; exact hv
    rw [hits, List.getElem?_map] at hi
    cases ha : ads[i]? with
    | none => rw [ha] at hi; cases hi
    | some x =>
      rw [ha] at hi
      cases hi
      have hil : i < ds.length := by rw [← hlen]; exact (List.getElem?_eq_some_iff.mp ha).1
      obtain ⟨d, hd⟩ : ∃ d, ds[i]? = some d := ⟨_, List.getElem?_eq_getElem hil⟩
      have hz : (x, d) ∈ ads.zip ds := List.mem_of_getElem? (i := i) (by rw [List.getElem?_zip_eq_some]; exact ⟨ha, hd⟩)
      have hx : NK s'.heap (keyN d) x := nk_keep (hk _ hz) k
      obtain ⟨es, ep, t, R⟩ := x1.on fun p hp => by
        obtain ⟨q, hq, rfl⟩ := List.mem_map.mp hp
        exact nk_keep (hk q (x3 q hq)) k
      have hin : ∀ q ∈ D, q.2 ∈ ds := fun q hq => (List.of_mem_zip (x3 q hq)).2
      have hdm : d ∈ ds := List.mem_of_getElem? hd
      have hmem : keyN d ∈ (D.map entD).map (·.2) ↔ d ∈ D.map (·.2) := by
        rw [List.map_map]
        constructor
        · intro z
          obtain ⟨q, hq, e⟩ := List.mem_map.mp z
          have := keyN_inj q.2 d (keyTup_at hkt (hin q hq)).2.1 (keyTup_at hkt hdm).2.1 e
          exact List.mem_map.mpr ⟨q, hq, this⟩
        · intro z
          obtain ⟨q, hq, e⟩ := List.mem_map.mp z
          exact List.mem_map.mpr ⟨q, hq, by show keyN q.2 = _; rw [e]⟩
      have hany : ((dedup [] (ds.take i)).any fun y => PyData.eqv y d) = true ↔ d ∈ D.map (·.2) := by
        rw [List.any_eq_true, x2.mem_iff]
        constructor
        · rintro ⟨y, hy, e⟩
          have hy' : y ∈ ds := by
            rcases dedup_mem hy with z | z
            · cases z
            · exact List.mem_of_mem_take z
          rw [← (eqv_nest y d (keyTup_at hkt hy').2.1 (keyTup_at hkt hdm).2.1).mp e]
          exact hy
        · intro z
          exact ⟨d, z, (eqv_nest d d (keyTup_at hkt hdm).2.1 (keyTup_at hkt hdm).2.1).mpr rfl⟩
      have hDl : D.length ≤ i := by
        have q := x2.length_eq
        have q2 := dedup_len (ds.take i) []
        rw [List.length_map] at q
        rw [List.length_take] at q2
        simp at q2
        omega
      refine wpAny_holding ?_
      unfold setAdd
      refine wpAny_holding (wpAny_bind (nk_hash (k := keyN d) (by omega) hx ?_))
      refine setN_add (s := { s' with toks := s'.toks + (keyN d).draws }) R hx (by omega) (by rw [List.length_map]; omega) fun b h' L' es' ep' t' sb R' c1 c2 => hQ h' _ (Nat.le_add_right _ _) sb ⟨fun b o q => ?_, ?_⟩
      · rw [sb.2 b (fun z => by rw [z] at q; exact absurd (Heap.lt_size q) (Nat.lt_irrefl _))]
        exact k b o q
      · rw [L2.take_next hd, dedup_snoc]
        by_cases hc : d ∈ D.map (·.2)
        · rw [if_pos (hany.mpr hc)]
          refine ⟨D, ?_, x2, x3⟩
          rw [← c1 (hmem.mpr hc)]
          exact R'.off
        · rw [if_neg fun z => hc (hany.mp z)]
          obtain ⟨D', p1, p2⟩ := perm_map (D := (x, d) :: D) (f := entD) (c2 fun z => hc (hmem.mp z)) rfl
          refine ⟨D', by rw [← p2]; exact R'.off, ?_, fun q hq => ?_⟩
          · refine (p1.map (·.2)).trans ?_
            rw [List.map_cons]
            exact (x2.cons d).trans (List.perm_append_singleton d _).symm
          · rcases List.mem_cons.mp (p1.mem_iff.mp hq) with rfl | hq
            · exact hz
            · exact x3 q hq
  · rintro h' tk ⟨k, D, x1, x2, x3⟩ e
    rw [hsz, List.take_length] at x2
    exact h h' tk D x1 x2 x3 e
mutual
theorem reads_none {h : Heap} : ∀ (d : PyData) {v : Value} {as : List Addr}, Reads h v d as → nestB d = true → as = []
  | .none, _, _, r, _ => by cases r; rfl
  | .int i, _, _, r, _ => by cases r; rfl
  | .str i, _, _, r, _ => by cases r; rfl
  | .tuple xs, _, _, r, hb => by
    rw [nestB] at hb
    cases r with
    | tuple h1 h2 h3 h4 => exact reads_nones xs h4 hb
  | .bool _, _, _, _, hb => by simp [nestB] at hb
  | .list _, _, _, _, hb => by simp [nestB] at hb
  | .dict _, _, _, _, hb => by simp [nestB] at hb
theorem reads_nones {h : Heap} : ∀ (ds : List PyData) {vs : List Value} {as : List Addr}, ReadsAll h vs ds as → nestBs ds = true → as = []
  | [], _, _, r, _ => by cases r; rfl
  | d :: ds, _, _, r, hb => by
    rw [nestBs, Bool.and_eq_true] at hb
    cases r with
    | cons a b => rw [reads_none d a hb.1, reads_nones ds b hb.2]; rfl
end
theorem each_D {R : Value → PyData → Prop} : ∀ {D : List Dat}, (∀ q ∈ D, R (.ref q.1) q.2) → PySem.W.EachIs R (D.map fun q => Value.ref q.1) (D.map (·.2))
  | [], _ => .nil
  | q :: D, h => .cons (h q List.mem_cons_self) (each_D fun p hp => h p (List.mem_cons_of_mem _ hp))
/-- sorted(a), a set of nested keys -/
theorem setN_sorted {D : List Dat} {R : Value → PyData → Prop} {Q : Value → Shared → Prop} (R0 : SetN0 w s.heap a (D.map entD)) (hh : A.handled = none) (hu : A.units + 200 < cLine) (hr : ∀ q ∈ D, ∃ as, Reads s.heap (.ref q.1) q.2 as) (hkt : ∀ q ∈ D, (∃ x r, q.2 = .tuple (x :: r)) ∧ nestB q.2 = true ∧ q.2.depth ≤ 8)
    (hal : ∀ q ∈ D, ∀ p ∈ D, PySem.W.alike q.2 p.2 = true) (hR : ∀ q ∈ D, R (.ref q.1) q.2)
    (hQ : ∀ s' p (out : List Value) (c : Nat), (∀ b o, s.heap.get? b = some o → s'.heap.get? b = some o) → s'.gens = s.gens → s'.os = s.os → s.heap.objs.size ≤ p → s'.heap.get? p = some (seqObj "list" out.toArray c) → out.length = D.length →
      PySem.W.EachIs R out (isort [] (D.map (·.2))) → Q (.ref p) s') :
    wpAny (model P w) A (call (.builtin "sorted") [.ref a]) Q E s := by
  obtain ⟨es, ep, t, R1⟩ := R0.on fun p hp => by
    obtain ⟨q, hq, rfl⟩ := List.mem_map.mp hp
    obtain ⟨as, r⟩ := hr q hq
    exact ⟨reads_nest _ r (hkt q hq).2.1, Nat.le_trans (keyN_depth _) (hkt q hq).2.2⟩
  obtain ⟨o, ho, hex, hd⟩ := id R1.ob
  have hfew := R1.few
  have hesz := R1.size
  rw [List.length_map] at hfew hesz
  refine Calls.call_function_entry kind_sorted plain_sorted entry_sorted (args_sorted1 _) ?_
  unfold Builtin.«sorted»
  refine wpAny_bind (m := checkCount "sorted" 1 1 _) (wpAny_pure (wpAny_bind (collect_set (A := A.in1) hh ⟨o, ho, hex.1, hd⟩ R1.fits (by show es.size < 4096; omega) R1.tab.ris R1.led fun s1 vs k1 hz g1 o1 pm => ?_)))
  rw [R1.rows, List.map_map, List.map_map] at pm
  obtain ⟨D', p1, p2⟩ := perm_map (D := D) (f := fun q => Value.ref q.1) pm rfl
  have hvl : vs.length = D.length := by rw [p2, List.length_map, p1.length_eq]
  have inD : ∀ q ∈ D', q ∈ D := fun q hq => p1.mem_iff.mp hq
  refine wpAny_bind (wpAny_newList ?_ (by rw [hvl, sizeLine_eq]; omega))
  have oL : (s1.heap.push (seqObj "list" vs.toArray 0)).get? s1.heap.objs.size = some (seqObj "list" vs.toArray 0) := Heap.get?_push_size _ rfl
  refine wpAny_bind (wpAny_holding (PySem.W.list_sort_data (enc := id) (vs := vs) (bs := D'.map (·.2)) (R := R) oL (by rw [p2]; exact each_D fun q hq => hR q (inD q hq)) (by
      rw [p2]
      refine each_D fun q hq => ?_
      obtain ⟨as, r⟩ := hr q (inD q hq)
      have e := reads_none _ r (hkt q (inD q hq)).2.1
      subst e
      exact ⟨[], PyProof.Rows.Reads.keeps (fun b u e => Heap.get?_push_of_some _ (k1 b u e)) r, by simp⟩) ?_ ?_ (by rw [List.length_map, p1.length_eq, sizeLine_eq]; omega) ?_ fun out hol he => ?_))
  · rw [List.map_id]
    intro d hd d' hd'
    obtain ⟨q, hq, rfl⟩ := List.mem_map.mp hd
    obtain ⟨q', hq', rfl⟩ := List.mem_map.mp hd'
    exact hal q (inD q hq) q' (inD q' hq')
  · rw [List.map_id]
    refine .inl fun d hd => ?_
    obtain ⟨q, hq, rfl⟩ := List.mem_map.mp hd
    exact (hkt q (inD q hq)).1
  · intro b hb
    obtain ⟨q, hq, rfl⟩ := List.mem_map.mp hb
    have := (hkt q (inD q hq)).2.2
    show A.in1.units + 1 + q.2.depth < cLine
    show A.units + 1 + 1 + q.2.depth < cLine
    omega
  · rw [← isort_eq] at he
    obtain ⟨c, hc⟩ := sortedHeap_at (vs := vs) (out := out.toArray) oL
    refine wpAny_pure ⟨_, rfl, hQ _ s1.heap.objs.size out c (fun b u e => ?_) g1 o1 hz hc (by rw [hol, List.length_map, p1.length_eq]) ?_⟩
    · have q := k1 b u e
      have lt := Heap.lt_size q
      show (sortedHeap (s1.heap.push (seqObj "list" vs.toArray 0)) s1.heap.objs.size vs out.toArray).get? b = some u
      rw [sortedHeap_old (Nat.ne_of_lt lt) (by rw [size_push']; exact Nat.lt_succ_of_lt lt)]
      exact Heap.get?_push_of_some _ q
    · rw [← isort_nest (p1.map (·.2)) (fun x hx => by
        obtain ⟨q, hq, rfl⟩ := List.mem_map.mp hx
        exact (hkt q hq).2.1) (fun x hx y hy => by
        obtain ⟨q, hq, rfl⟩ := List.mem_map.mp hx
        obtain ⟨q', hq', rfl⟩ := List.mem_map.mp hy
        exact hal q hq q' hq')]
      exact he
end
end Ra


set_option Elab.async false
set_option linter.all false
set_option autoImplicit false
set_option maxRecDepth 100000
/-! sorted(set(e)), len(set(e)): the rules -/
namespace Ra
open PySem PySem.Spec PyProof.Rows L2
def SetNO (w : World) (a : Addr) (L : List Ent) : HO := .ext fun h => SetN0 w h a L
theorem setNO_new {P : Program} {w : World} {H : Hp} {h : Heap} {a : Addr} {L : List Ent} (R : SetN0 w h a L) : ObjOk P w H h a (SetNO w a L) := by
  have ⟨_, _, _, ⟨o, ho, _⟩, _⟩ := R
  exact ⟨R, ⟨o, ho⟩, fun h1 h2 p k => SetN0.keep p k⟩
theorem rp_refs {K : PySem.W.Frag} {F : Addr → Prop} {H : Hp} : ∀ {ds : List PyData} {ws : List V}, RpAll K F H ws ds → keyTup ds = true → ∃ ads : List Addr, ws = ads.map V.ref ∧ ∀ q ∈ ads.zip ds, Rp K F H (.ref q.1) q.2
  | [], _, .nil, _ => ⟨[], rfl, by simp⟩
  | d :: ds, _, .cons r t, h => by
    obtain ⟨⟨x, y, hd⟩, _, _⟩ := keyTup_at h List.mem_cons_self
    have h' : keyTup ds = true := by
      unfold keyTup at h
      rw [List.all_cons, Bool.and_eq_true] at h
      exact h.2
    obtain ⟨ads, e, q⟩ := rp_refs t h'
    subst hd
    cases r with
    | @tup a xs _ h1 h2 =>
      refine ⟨a :: ads, by rw [e]; rfl, fun p hp => ?_⟩
      rw [List.zip_cons_cons] at hp
      rcases List.mem_cons.mp hp with rfl | hp
      · exact .tup h1 h2
      · exact q p hp
theorem vals_refs : ∀ {ads : List Addr} {us : List Value}, Vals (ads.map V.ref) us → us = ads.map Value.ref
  | [], _, .nil => rfl
  | a :: ads, _, .cons h t => by
    rw [vals_refs t]
    have : _ = Value.ref a := h
    rw [this]
    rfl
def rSetN1 (K : PySem.W.Frag) (w : World) : List V → Hp → VK → Prop := fun xs H Q => ∃ (a : Addr) (ws : List V) (ds : List PyData) (F : Addr → Prop), xs = [.ref a] ∧ (Rd H a (.lst ws) ∨ SqT K H a ws) ∧ RpAll K F H ws ds ∧ keyTup ds = true ∧ ds.length < 64 ∧
  ∀ p (D : List Dat), H p = none → (D.map (·.2)).Perm (dedup [] ds) → (∀ q ∈ D, Rp K F H (.ref q.1) q.2 ∧ q.2 ∈ ds) → Q (.ref p) (upd H p (SetNO w p (D.map entD)))
def rSetN2 (K : PySem.W.Frag) (w : World) : List V → Hp → VK → Prop := fun xs H Q => ∃ (a : Addr) (D : List Dat) (F : Addr → Prop), xs = [.ref a] ∧ H a = some (SetNO w a (D.map entD)) ∧ (∀ q ∈ D, Rp K F H (.ref q.1) q.2) ∧ (∀ q ∈ D, (∃ x r, q.2 = .tuple (x :: r)) ∧ nestB q.2 = true ∧ q.2.depth ≤ 8) ∧
  (∀ q ∈ D, ∀ p ∈ D, PySem.W.alike q.2 p.2 = true) ∧ D.length < 64 ∧ ∀ p vs, H p = none → RpAll K F H vs (isort [] (D.map (·.2))) → Q (.ref p) (upd H p (.lst vs))
def rLenN (w : World) : List V → Hp → VK → Prop := fun xs H Q => ∃ (a : Addr) (L : List Ent), xs = [.ref a] ∧ H a = some (SetNO w a L) ∧ Q (.int L.length) H
section
variable {X : Cx} {e : Expr} {p : P} {pos : Pos}
theorem cr_setN1 (hc : X.calm = true) (hu : X.A.units + 200 < cLine) : CallR X (.type "set") (rSetN1 X.K X.w) := by
  intro pins s σ H xs us Q I r h
  obtain ⟨l, ws, ds, F, rfl, hl, hr, hkt, hfew, q⟩ := h
  rw [Vals.ref1 r]
  obtain ⟨ads, rfl, hrp⟩ := rp_refs hr hkt
  have hlen : ads.length = ds.length := by
    have := hr.length
    rw [List.length_map] at this
    exact this
  have hk : ∀ q ∈ ads.zip ds, NK s.heap (keyN q.2) q.1 := fun q hq => by
    obtain ⟨as, rd⟩ := Dp.reads I q.2 _ (.ref q.1) (Rp.dp _ (hrp q hq)) rfl
    have hm := (List.of_mem_zip hq).2
    exact ⟨reads_nest _ rd (keyTup_at hkt hm).2.1, Nat.le_trans (keyN_depth _) (keyTup_at hkt hm).2.2⟩
  have fin : ∀ (h' : Heap) (tk : Nat) (D : List Dat), SetN0 X.w h' s.heap.objs.size (D.map entD) → (D.map (·.2)).Perm (dedup [] ds) → (∀ q ∈ D, q ∈ ads.zip ds) → (∀ b o, s.heap.get? b = some o → h'.get? b = some o) → EP X pins σ Q (.ref s.heap.objs.size) { s with heap := h', toks := tk } := fun h' tk D R pm hD k =>
    ⟨.ref s.heap.objs.size, upd H s.heap.objs.size (SetNO X.w s.heap.objs.size (D.map entD)), I.laid (t' := tk) k (Nat.le_refl _) (setNO_new R), rfl, q _ D (I.hok.fresh (Nat.le_refl _)) pm fun p hp => ⟨hrp p (hD p hp), (List.of_mem_zip (hD p hp)).2⟩⟩
  rcases hl with hl | hl
  · obtain ⟨its, rv, pl, hz⟩ := I.list (.inl hl)
    have e := vals_refs rv
    subst e
    exact setN_call (P := X.prog) (w := X.w) (I.ok.hd hc) (.inl pl.isList) (by simp) hlen hk hkt hfew (by omega) fin
  · obtain ⟨its, rv, pl, hz⟩ := I.tuple hl
    have e := vals_refs rv
    subst e
    exact setN_call (P := X.prog) (w := X.w) (I.ok.hd hc) (.inr (show s.heap.IsTuple l (ads.map Value.ref).toArray from pl)) (by simp) hlen hk hkt hfew (by omega) fin
theorem cr_lenN : CallR X (.builtin "len") (rLenN X.w) := by
  intro pins s σ H xs us Q I r h
  obtain ⟨a, L, rfl, ha, q⟩ := h
  have R : SetN0 X.w s.heap a L := (I.hok a _ ha).1
  rw [Vals.ref1 r]
  obtain ⟨es, ep, t, ⟨o, ho, hex, hd⟩, hrow, T, _, _, room, few⟩ := R
  have hn : es.size = L.length := by rw [← Array.length_toList, hrow, List.length_map]
  have hf : t.fits es.size = true := by
    have h1 := T.sz
    rw [List.length_map] at h1
    unfold SetTable.fits SetTable.fill
    simp only [T.dm, Bool.and_eq_true, beq_iff_eq, decide_eq_true_eq]
    have : (#[] : Array Nat).size = 0 := rfl
    omega
  exact call_len_set ho hex hd hf (by omega) ⟨.int L.length, H, I.tok _, ⟨_, by rw [hn]⟩, q⟩
theorem cr_setN2 (hc : X.calm = true) (hu : X.A.units + 200 < cLine) : CallR X (.builtin "sorted") (rSetN2 X.K X.w) := by
  intro pins s σ H xs us Q I r h
  obtain ⟨a, D, F, rfl, ha, hr, hkt, hal, hfew, q⟩ := h
  have R : SetN0 X.w s.heap a (D.map entD) := (I.hok a _ ha).1
  rw [Vals.ref1 r]
  refine setN_sorted (R := fun u d => ∃ x, RelV x u ∧ Rp X.K F H x d) R (I.ok.hd hc) hu (fun p hp => Dp.reads I p.2 _ (.ref p.1) (Rp.dp _ (hr p hp)) rfl) hkt hal (fun p hp => ⟨.ref p.1, rfl, hr p hp⟩) fun s' p out c k g o hp hg hlen he => ?_
  obtain ⟨zs, z1, z2⟩ := of_each he
  have hz : zs.length ≤ sizeLine := by rw [z1.length, hlen, sizeLine_eq]; omega
  have hn : H p = none := I.hok.fresh hp
  have J : Inv X pins σ (upd H p (.lst zs)) { s with heap := s'.heap, gens := s'.gens, drawn := s'.drawn, toks := s'.toks } :=
    I.call (ch := []) (Un.laid k hp hn) (I.hok.laid k hp ⟨hz, out, c, z1, hg⟩) (by rw [g]; exact I.bare) (fun _ z => nomatch z)
  have e : s' = { s with heap := s'.heap, gens := s'.gens, drawn := s'.drawn, toks := s'.toks } := by
    cases s'
    cases s
    cases o
    rfl
  rw [e]
  exact ⟨.ref p, _, J, rfl, q p zs hn z2⟩
theorem cr_or {f : Value} {r1 r2 : List V → Hp → VK → Prop} (h1 : CallR X f r1) (h2 : CallR X f r2) : CallR X f fun xs H Q => r1 xs H Q ∨ r2 xs H Q := by
  intro pins s σ H xs us Q I r h
  rcases h with h | h
  · exact h1 pins s σ H xs us Q I r h
  · exact h2 pins s σ H xs us Q I r h
/-- what a set is made of -/
def setSel (f : List PyData → Option Val) : List PyData → Option Val
  | [.list xs] => if allStr xs = true ∧ xs.length < 4000 then f xs else if keyTup xs = true ∧ xs.length < 64 then f xs else none
  | [.tuple xs] => if allStr xs = true ∧ xs.length < 4000 then f xs else if keyTup xs = true ∧ xs.length < 64 then f xs else none
  | _ => none
theorem sorted_sel (ds : List PyData) : sortedsetD ds = setSel (fun xs => (sortD (dedup [] xs)).map Val.fr) ds := by
  unfold sortedsetD setSel
  rfl
theorem len_sel (ds : List PyData) : lensetD ds = setSel (fun xs => some (.d (.int (dedup [] xs).length))) ds := by
  unfold lensetD setSel
  rfl
theorem set_src {K : PySem.W.Frag} {F : Addr → Prop} {H : Hp} {z : V} {ds : List PyData} {out : Val} {f : List PyData → Option Val} (rr : RrAll K F H [z] ds) (ho : setSel f ds = some out) :
    ∃ (a : Addr) (ws : List V) (xs : List PyData), z = .ref a ∧ (Rd H a (.lst ws) ∨ SqT K H a ws) ∧ RpAll K F H ws xs ∧ f xs = some out ∧ ((∃ ks : List Str, xs = ks.map PyData.str ∧ ws = ks.map V.str ∧ (∀ k ∈ ks, sOk k = true) ∧ ks.length < 4000) ∨ (keyTup xs = true ∧ xs.length < 64)) := by
  have fin : ∀ {ws : List V} {xs : List PyData}, RpAll K F H ws xs → (if allStr xs = true ∧ xs.length < 4000 then f xs else if keyTup xs = true ∧ xs.length < 64 then f xs else none) = some out →
      f xs = some out ∧ ((∃ ks : List Str, xs = ks.map PyData.str ∧ ws = ks.map V.str ∧ (∀ k ∈ ks, sOk k = true) ∧ ks.length < 4000) ∨ (keyTup xs = true ∧ xs.length < 64)) := fun {ws xs} h2 ho => by
    split at ho
    · rename_i hcs
      obtain ⟨ks, rfl⟩ := allStr_ok hcs.1
      obtain ⟨rfl, hok⟩ := rp_strs h2
      exact ⟨ho, .inl ⟨ks, rfl, rfl, hok, by simpa using hcs.2⟩⟩
    · split at ho
      · rename_i hcs
        exact ⟨ho, .inr hcs⟩
      · cases ho
  unfold setSel at ho
  split at ho
  · obtain ⟨z', ez, hr⟩ := rr.one
    cases ez
    obtain ⟨a, ws, rfl, h1, h2⟩ := hr.lst
    obtain ⟨f1, f2⟩ := fin h2 ho
    exact ⟨a, ws, _, rfl, .inl h1, h2, f1, f2⟩
  · obtain ⟨z', ez, hr⟩ := rr.one
    cases ez
    obtain ⟨a, ws, rfl, h1, h2⟩ := hr.tup
    obtain ⟨f1, f2⟩ := fin h2 ho
    exact ⟨a, ws, _, rfl, .inr h1, h2, f1, f2⟩
  · cases ho
theorem dedup_perm_len {D : List Dat} {xs : List PyData} (pm : (D.map (·.2)).Perm (dedup [] xs)) (h : xs.length < 64) : D.length < 64 := by
  have q := pm.length_eq
  have q2 := dedup_len xs []
  rw [List.length_map] at q
  simp at q2
  omega
theorem pe_setR {x y : Str} {q q2 q3 : Pos} (hx : x = "sorted") (hg : Gl X x) (hm : X.mg x = none) (ok : okName x = true) (hy : y = "set") (hg2 : Gl X y) (hm2 : X.mg y = none) (ok2 : okName y = true) (hc : X.calm = true) (hu : X.A.units + 200 < cLine)
    (ha : PE X e (tE X.K p.v)) (ns : notStar e = true) : PE X (.Call (.Name x q) [.Call (.Name y q2) [e] [] q3] [] pos) (tE X.K (cBi .sortedset [p])) := by
  subst hx; subst hy
  have b1 : bootBuiltins "sorted" = some (.builtin "sorted") := by decide +kernel
  have b2 : bootBuiltins "set" = some (.type "set") := by decide +kernel
  have inner := pe_callTy (p := q2) (pos := q3) (cr_or (cr_set1 hc) (cr_setN1 hc hu)) hg2 hm2 b2 (pa_cons ha pa_nil (star1 ns _ _)) (by decide) (by decide) (star1 ns _ _) (star_plain _ _ _ rfl)
  have outer := pe_callB (p := q) (pos := pos) (cr_or (cr_set2 hc hu) (cr_setN2 hc hu)) hg hm b1 (pa_cons inner pa_nil (star1 rfl _ _)) (by decide) (by decide) (star1 rfl _ _) (star_plain _ _ _ rfl)
  refine PE.weak outer fun σ H Q h => ?_
  obtain ⟨env, m, g, hs, hm', hz⟩ := h
  refine ⟨env, m, g, hs, hm', (Rz.bind (show Rz X.K (((p.v env m).bind fun v m1 => (cArgs [] env m1).bind fun vs m2 => .ok (v.nf :: vs) m2).bind _) g H _ from hz) |> Rz.bind).mono fun v m1 g1 H1 e1 s1 z1 z rv => ?_⟩
  show (rSet1 X.K X.w [z] H1 fun x H2 => rSet2 X.w [x] H2 Q ∨ rSetN2 X.K X.w [x] H2 Q) ∨ (rSetN1 X.K X.w [z] H1 fun x H2 => rSet2 X.w [x] H2 Q ∨ rSetN2 X.K X.w [x] H2 Q)
  obtain ⟨g2, s2, e2, r2⟩ := s1.hold rv
  have z2 := Rz.ok_now (show Rz X.K (.ok [v.nf] m1) g2 H1 _ from Rz.ext e2 z1) s2
  obtain ⟨ds, hd, z3⟩ := Rz.optBind z2
  have rr := look_ok s2 (.cons r2 (nf_ne v) .nil) hd
  obtain ⟨out, ho, z4⟩ := Rz.opt z3
  replace ho : sortedsetD ds = some out := ho
  obtain ⟨a, ws, xs, rfl, h1, h2, ho, hk⟩ := set_src rr ((sorted_sel ds).symm.trans ho)
  obtain ⟨ys, hy, eo⟩ := Option.map_eq_some_iff.mp ho
  subst eo
  have hys : ys = isort [] (dedup [] xs) ∧ allAlike (dedup [] xs) = true := by
    unfold sortD at hy
    split at hy
    · rename_i hcnd
      simp only [Bool.and_eq_true] at hcnd
      exact ⟨(Option.some.inj hy).symm, hcnd.1.1⟩
    · cases hy
  obtain ⟨hys, hall⟩ := hys
  subst hys
  rcases hk with ⟨ks, rfl, rfl, hok, hlt⟩ | ⟨hkt, hfew⟩
  · left
    have hb : ks.length + 1 < scanBound := by
      show ks.length + 1 < 4096
      omega
    refine ⟨a, ks, rfl, h1, hb, fun p hp => .inl ⟨p, firstS [] ks, rfl, upd_same .., fun p2 M hM hp2 => ?_⟩⟩
    have s3 := sim_new (o := SetSO X.w p (firstS [] ks)) s2 hp trivial
    have e3 := ext_new (o := SetSO X.w p (firstS [] ks)) s2 hp
    have hys : isort [] (dedup [] (ks.map PyData.str)) = M.map PyData.str := by
      have q := dedup_strs ks []
      simp only [List.reverse_nil, List.map_nil] at q
      rw [hM, ← q]
    rw [hys] at z4
    have hMo : ∀ k ∈ M, sOk k = true := fun k hk => by
      have q : PyData.str k ∈ isort [] ((firstS [] ks).map PyData.str) := by rw [← hM]; exact List.mem_map_of_mem hk
      obtain ⟨j, hj, ej⟩ := List.mem_map.mp ((isort_perm _ []).mem_iff.mp q)
      cases ej
      rcases firstS_sub hj with q | q
      · cases q
      · exact hok _ q
    have hlen : (M.map V.str).length ≤ sizeLine := by
      have q := congrArg List.length hM
      rw [List.length_map, isort_length, List.length_map, List.length_nil] at q
      have q2 := firstS_len ks []
      rw [List.length_nil] at q2
      rw [List.length_map, sizeLine_eq]
      omega
    exact ans_l s3 (Rz.ext e3 z4) (strs_rp hMo) hlen hp2
  · right
    refine ⟨a, ws, xs, g2.F, rfl, h1, h2, hkt, hfew, fun p D hp pm hD => .inr ?_⟩
    have s3 := sim_new (o := SetNO X.w p (D.map entD)) s2 hp trivial
    have e3 := ext_new (o := SetNO X.w p (D.map entD)) s2 hp
    have hdf := dedup_perm_len pm hfew
    refine ⟨p, D, g2.F, rfl, upd_same .., fun q hq => Rp.ext e3 _ (hD q hq).1, fun q hq => keyTup_at hkt (hD q hq).2, fun q hq q' hq' => ?_, hdf, fun p2 vs hp2 hvs => ?_⟩
    · have m1 := pm.mem_iff.mp (List.mem_map_of_mem (f := (·.2)) hq)
      have m2 := pm.mem_iff.mp (List.mem_map_of_mem (f := (·.2)) hq')
      exact List.all_eq_true.mp (List.all_eq_true.mp hall _ m1) _ m2
    · have hso : isort [] (D.map (·.2)) = isort [] (dedup [] xs) := isort_nest pm (fun y hy => by
        rcases dedup_mem hy with z | z
        · cases z
        · exact (keyTup_at hkt z).2.1) fun y hy y' hy' => List.all_eq_true.mp (List.all_eq_true.mp hall _ hy) _ hy'
      rw [hso] at hvs
      refine ans_l s3 (Rz.ext e3 z4) hvs ?_ hp2
      rw [hvs.length, ← hso, isort_length, List.length_map, List.length_nil, sizeLine_eq]
      omega
theorem pe_lensetR {x y : Str} {q q2 q3 : Pos} (hx : x = "len") (hg : Gl X x) (hm : X.mg x = none) (hy : y = "set") (hg2 : Gl X y) (hm2 : X.mg y = none) (hc : X.calm = true) (hu : X.A.units + 200 < cLine)
    (ha : PE X e (tE X.K p.v)) (ns : notStar e = true) : PE X (.Call (.Name x q) [.Call (.Name y q2) [e] [] q3] [] pos) (tE X.K (cBi .lenset [p])) := by
  subst hx; subst hy
  have b1 : bootBuiltins "len" = some (.builtin "len") := by decide +kernel
  have b2 : bootBuiltins "set" = some (.type "set") := by decide +kernel
  have inner := pe_callTy (p := q2) (pos := q3) (cr_or (cr_set1 hc) (cr_setN1 hc hu)) hg2 hm2 b2 (pa_cons ha pa_nil (star1 ns _ _)) (by decide) (by decide) (star1 ns _ _) (star_plain _ _ _ rfl)
  have outer := pe_callB (p := q) (pos := pos) (cr_or cr_lenS cr_lenN) hg hm b1 (pa_cons inner pa_nil (star1 rfl _ _)) (by decide) (by decide) (star1 rfl _ _) (star_plain _ _ _ rfl)
  refine PE.weak outer fun σ H Q h => ?_
  obtain ⟨env, m, g, hs, hm', hz⟩ := h
  refine ⟨env, m, g, hs, hm', (Rz.bind (show Rz X.K (((p.v env m).bind fun v m1 => (cArgs [] env m1).bind fun vs m2 => .ok (v.nf :: vs) m2).bind _) g H _ from hz) |> Rz.bind).mono fun v m1 g1 H1 e1 s1 z1 z rv => ?_⟩
  show (rSet1 X.K X.w [z] H1 fun x H2 => rLenS X.w [x] H2 Q ∨ rLenN X.w [x] H2 Q) ∨ (rSetN1 X.K X.w [z] H1 fun x H2 => rLenS X.w [x] H2 Q ∨ rLenN X.w [x] H2 Q)
  obtain ⟨g2, s2, e2, r2⟩ := s1.hold rv
  have z2 := Rz.ok_now (show Rz X.K (.ok [v.nf] m1) g2 H1 _ from Rz.ext e2 z1) s2
  obtain ⟨ds, hd, z3⟩ := Rz.optBind z2
  have rr := look_ok s2 (.cons r2 (nf_ne v) .nil) hd
  obtain ⟨out, ho, z4⟩ := Rz.opt z3
  replace ho : lensetD ds = some out := ho
  obtain ⟨a, ws, xs, rfl, h1, h2, ho, hk⟩ := set_src rr ((len_sel ds).symm.trans ho)
  cases ho
  rcases hk with ⟨ks, rfl, rfl, hok, hlt⟩ | ⟨hkt, hfew⟩
  · left
    have hlen : (dedup [] (ks.map PyData.str)).length = (firstS [] ks).length := by
      have q := dedup_strs ks []
      simp only [List.reverse_nil, List.map_nil] at q
      rw [q, List.length_map]
    have hb : ks.length + 1 < scanBound := by
      show ks.length + 1 < 4096
      omega
    refine ⟨a, ks, rfl, h1, hb, fun p hp => .inl ⟨p, firstS [] ks, rfl, upd_same .., ?_⟩⟩
    have s3 := sim_new (o := SetSO X.w p (firstS [] ks)) s2 hp trivial
    have e3 := ext_new (o := SetSO X.w p (firstS [] ks)) s2 hp
    rw [hlen] at z4
    exact ans_d s3 (Rz.ext e3 z4) (.int _)
  · right
    refine ⟨a, ws, xs, g2.F, rfl, h1, h2, hkt, hfew, fun p D hp pm hD => .inr ⟨p, D.map entD, rfl, upd_same .., ?_⟩⟩
    have s3 := sim_new (o := SetNO X.w p (D.map entD)) s2 hp trivial
    have e3 := ext_new (o := SetNO X.w p (D.map entD)) s2 hp
    have hl : (dedup [] xs).length = (D.map entD).length := by rw [← pm.length_eq, List.length_map, List.length_map]
    rw [hl] at z4
    exact ans_d s3 (Rz.ext e3 z4) (.int _)
end
end Ra


set_option Elab.async false
set_option linter.all false
set_option autoImplicit false
set_option maxRecDepth 100000
set_option maxHeartbeats 2000000
/-! an own error whose __init__ says super().__init__(f), then self.f = f -/
namespace PySem
namespace SupX
open PySem.W PySem.Calls PyProof.Rows PySem.HandSPX
def iA (f : Str) (p1 p2 : Pos) : Arguments := { posonlyargs := [], args := [{ arg := "self", annotation := none, pos := p1 }, { arg := f, annotation := none, pos := p2 }], vararg := none, kwonlyargs := [], kw_defaults := [], kwarg := none, defaults := [] }
def iB (f : Str) (q1 q2 q3 q4 q5 q6 q7 q8 q9 q10 : Pos) : List Stmt := [.Expr (.Call (.Attribute (.Call (.Name "super" q1) [] [] q2) "__init__" q3) [.Name f q4] [] q5) q6, .Assign [.Attribute (.Name "self" q7) f q8] (.Name f q9) q10]
def iS (f : Str) : Scope := { kind := .function, names := [(PySem.Str.ofString "self", .local), (f, .local), (PySem.Str.ofString "__class__", .free), (PySem.Str.ofString "super", .globalImplicit)], isGenerator := false, isCoroutine := false, more := [] }
/-- a built-in class over which errors are made -/
structure BaseB (B newId i : String) (bmB : List Value) : Prop where
  base : ExcBaseFacts B newId i bmB
  kf : KxsFacts B i
  st : StoreFacts B bmB "object.__setattr__" "object"
theorem base_ValueError : BaseB "ValueError" "ValueError.__new__" "ValueError.__init__" [.type "ValueError", .type "Exception", .type "BaseException", .type "object"] := ⟨F.excBase_ValueError, kxs_ValueError, F.store_ValueError⟩
theorem base_LookupError : BaseB "LookupError" "LookupError.__new__" "LookupError.__init__" [.type "LookupError", .type "Exception", .type "BaseException", .type "object"] := ⟨F.excBase_LookupError, kxs_LookupError, F.store_LookupError⟩
/-- what the written part says of the class, at C, and of its __init__, at fI -/
structure SupTxt (K : Frag) (prog : Program) (f : Str) (B newId i : String) (bmB : List Value) (C fI : Addr) : Prop where
  bb : BaseB B newId i bmB
  q : excInitIn K C bmB newId = true
  ov : excOver K C bmB = true
  sa : findIn K (.ref C) "__setattr__" = some (some (.builtin "object.__setattr__"))
  noN : findIn K (.ref C) f = some none
  iC : findIn K (.ref C) "__init__" = some (some (.ref fI))
  tC : isFn K (.ref fI) = true
  hdC : hasDictIn K C = true
  su : ks_superIn K C C "__init__" = some (some (.builtin i))
  sb : subIn K (.ref C) (.type B) = some true
  mr : mroIn K C (.ref C) = some true
  op : nsIn K cStatics "thirdparty.any" = some none
  nf : (f == ("self" : Str)) = false ∧ (("super" : Str) == f) = false ∧ (("__class__" : Str) == f) = false ∧ (f == ("__debug__" : Str)) = false
  bd : ∀ (qn : Str) (p1 p2 q1 q2 q3 q4 q5 q6 q7 q8 q9 q10 : Pos) (doc pm : Value) (an : Option Addr) (cdv ct : Value) (cc : Addr) (a b : Value), bindArgs (ksFn "__init__" qn (iA f p1 p2) (iB f q1 q2 q3 q4 q5 q6 q7 q8 q9 q10) (iS f) .none .none doc pm an cdv ct cc) ⟨[a, b], []⟩ = pure [(("self" : Str), a), (f, b)]
  top : (prog.main.scope.names.lookup ("super" : Str)).isSome = false
  fn : ∃ (oc : Value) (od : Option Addr) (qn : Str) (doc pm : Value) (an : Option Addr) (cda cc : Addr) (ct : Value) (osl : Array (Option Value)) (p1 p2 q1 q2 q3 q4 q5 q6 q7 q8 q9 q10 : Pos) (ccl cl : Value) (cdd cld : Option Addr) (ccs csl : Array (Option Value)) (vs : Array Value) (file : Str) (tf : Tok),
    K.lookup fI = some ⟨oc, od, .func (ksFn "__init__" qn (iA f p1 p2) (iB f q1 q2 q3 q4 q5 q6 q7 q8 q9 q10) (iS f) .none .none doc pm an (.ref cda) ct cc), osl⟩ ∧ codeIn K (.ref cda) qn = true ∧
    K.lookup cda = some ⟨ccl, cdd, .fields vs, ccs⟩ ∧ vs[2]? = some (.str file tf) ∧ ((prog.main.file : Str) == file) = true ∧ K.lookup cc = some ⟨cl, cld, .cell (some (.ref C)), csl⟩ ∧ (q3.endLine == q5.line) = true
theorem one_size (v : Value) : [v].length ≤ sizeLine := by
  rw [sizeLine_eq]
  exact (by decide : 1 ≤ 16777216)
/-- what __init__ leaves of a fresh exception at x -/
structure InitEnd (h h' : Heap) (x C dx t1 : Addr) (f : Str) (v : Value) : Prop where
  keep : ∀ b o, b ≠ x → h.get? b = some o → h'.get? b = some o
  obj : h'.get? x = some { cls := .ref C, dict := some dx, data := .fields #[.ref t1, .none, .none, .none, .bool false, .none] }
  dbig : h.objs.size ≤ dx
  dne : dx ≠ x
  ns : h'.Ns1 dx (fun y => if y = f then some v else none)
/-- a made error -/
structure OwnMade (h h' : Heap) (e C d : Addr) (f : Str) (v : Value) : Prop where
  keep : ∀ b o, h.get? b = some o → h'.get? b = some o
  new : h.objs.size ≤ e
  obj : ∃ oe vs, h'.get? e = some oe ∧ oe.cls = .ref C ∧ oe.dict = some d ∧ oe.data = .fields vs ∧ vs[1]? = some .none
  dbig : h.objs.size ≤ d
  dne : d ≠ e
  ns : h'.Ns1 d (fun y => if y = f then some v else none)
section
open Builtin Builtin.ObjectAttr
variable {prog : Program} {w : World} {A : Around} {E : Value → Shared → Prop} {R : Result → Shared → Prop} {hp : Heap} {g : Array GenState} {d : Drawn} {t : Nat} {os : OsState} {B newId i : String} {bmB : List Value}
theorem sup_osa {K : W.Frag} {name : Str} {tk : Tok} {v : Value} {x C : Addr} {fv : Array Value} (bb : BaseB B newId i bmB)
    (X : K.In hp) (hx : hp.get? x = some { cls := .ref C, data := .fields fv }) (ov : excOver K C bmB = true) (hh : hasDictIn K C = true) (ha : W.findIn K (.ref C) name = some none)
    (hq : ∀ h' tk' dx, (∀ b o, b ≠ x → hp.get? b = some o → h'.get? b = some o) → hp.objs.size ≤ dx → dx ≠ x → h'.get? x = some { cls := .ref C, dict := some dx, data := .fields fv } →
      h'.Ns1 dx (fun y => if y = name then some v else none) → R (.ok (.ret .none)) ⟨h', g, d, tk', os⟩) :
    codeAny (model prog w) A (.call (.builtin "object.__setattr__") ⟨[.ref x, .str name tk, v], []⟩) R ⟨hp, g, d, t, os⟩ := by
  have I : W.InstAt hp x { cls := .ref C, data := .fields fv } C none := ⟨hx, rfl, rfl, trivial⟩
  have hxs : x ≠ hp.objs.size := Nat.ne_of_lt (Heap.lt_size hx)
  obtain ⟨cd, hcd, hd'⟩ := any_some hh
  have hcls : W.Looks (model prog w) hp (classData C) cd := W.looks_clsIn X hcd
  refine osa_openX (s := ⟨hp, g, d, t, os⟩) (r := none) bb.st X I ov (by unfold takerIn; rw [ha]; rfl) fun b => ?_
  show wpAny _ _ (storeInOwnDict (.ref x) (.ref C) (.str name tk) name v b) _ _ _
  obtain ⟨nm, bs, mro, ns, qn, hd, sn, sb, ab, col, del⟩ := cd
  dsimp only at hd'
  subst hd'
  unfold storeInOwnDict ownDictForStores
  repeat (first | with_reducible refine HandSPX.store_in_new ?_ ?_ | with_reducible refine wpAny_loadPart_at hx ?_ | with_reducible refine hcls.at ?_ | wp_step)
  · exact ⟨_, #[], _, (Heap.get?_update_ne _ _ _ _ hxs.symm).trans (Heap.get?_push_at rfl rfl), rfl, fun e he => absurd he (by simp), fun _ => rfl⟩
  · intro h' tk' hn' hs
    have hx₁ : (hp.push { cls := .type "dict", data := .dict #[] }).get? x = some { cls := .ref C, data := .fields fv } := Heap.get?_push_of_some _ hx
    refine hq h' tk' hp.objs.size (fun b o hb ho => ?_) (Nat.le_refl _) hxs.symm ?_ hn'
    · exact (hs.2 b (Nat.ne_of_lt (Heap.lt_size ho))).trans ((Heap.get?_update_ne _ _ _ _ hb).trans (Heap.get?_push_of_some _ ho))
    · exact (hs.2 x hxs).trans (Heap.get?_update_self _ hx₁ rfl)
/-- the bound built-in __init__ called -/
theorem sup_call {K : W.Frag} {u x t0 C : Addr} {rest : List Value} {Q : Value → Shared → Prop} (bb : BaseB B newId i bmB) (X : K.In hp) (q : excInitIn K C bmB newId = true) (hu : hp.get? u = some (kxs_mw i x)) (he : hp.get? x = some (excO C t0)) (hz : rest.length ≤ sizeLine)
    (h : ∀ h', (∀ b o, b ≠ x → hp.get? b = some o → h'.get? b = some o) → h'.get? x = some (excO C hp.objs.size) → Q .none ⟨h', g, d, t, os⟩) :
    wpAny (model prog w) A (call (.ref u) rest) Q E ⟨hp, g, d, t, os⟩ := by
  obtain ⟨nm, N', qn, bs, bm, hdct, sn, sub, ab, col, dd, k0, k1, k2, k3, k5, hC, hT⟩ := excInit_of X q
  refine wpAny_call (codeAny_of_tree ?_)
  show wpAny _ A.in1 (callAny (.ref u) ⟨rest, []⟩) _ _ _
  simp only [callAny]
  refine wpAny_bind (wpAny_load hu ?_)
  simp only [kxs_mw, show (Value.type "method-wrapper" == Value.type "method" || Value.type "method-wrapper" == Value.type "builtin_function_or_method" || Value.type "method-wrapper" == Value.type "method-wrapper") = true by decide, if_true]
  refine KFB.if_so (by decide) ?_
  refine wpAny_bind (check_bound_init bb.base.toExcCallFacts hC he rfl ?_)
  refine wpAny_bind (wpAny_pure (wpAny_pure ?_))
  refine ⟨plainId_quiet bb.base.init.plain _, codeAny_builtin bb.base.initEntry ?_⟩
  exact exc_init_tree (cls := .ref C) (t0 := t0) (dv := none) (c2 := .none) (c3 := .none) (b4 := .bool false) he hz fun h' a b c => h h' a b
end
section
variable {prog : Program} {w : World} {A : Around} {E : Value → Shared → Prop} {R : Result → Shared → Prop} {s : Shared} {K : Frag} {mg mb : Str → Option Value} {C fI : Addr} {f : Str} {B newId i : String} {bmB : List Value}
theorem sup_init (T : SupTxt K prog f B newId i bmB C fI) {x t0 : Addr} {v : Value} (X : K.In s.heap) (hlim : s.heap.NoLimit) (hg : s.heap.Ns mainGlobals mg) (hmg : mg "super" = none) (hb : s.heap.Ns builtinsNs mb) (hmb : mb "super" = some (.type "super"))
    (hx : s.heap.get? x = some (excO C t0)) (hnx : ∀ a o, K.lookup a = some o → a ≠ x) (hroom : A.depth < recursionLimit)
    (hq : ∀ h' tk dx t1, InitEnd s.heap h' x C dx t1 f v → R (.ok (.ret .none)) { s with heap := h', toks := tk }) :
    codeAny (model prog w) A (.call (.ref fI) ⟨[.ref x, v], []⟩) R s := by
  obtain ⟨oc, od, qn, doc, pm, an, cda, cc, ct, osl, p1, p2, q1, q2, q3, q4, q5, q6, q7, q8, q9, q10, ccl, cl, cdd, cld, ccs, csl, vs, file, tf, ho, hcd, hcode, hvs, hfile, hcell, hpos⟩ := T.fn
  obtain ⟨n1, n2, n3, n4⟩ := T.nf
  have n2' : (("super" : Str) == f) = false := n2
  have ls : (iS f).names.lookup ("self" : Str) = some .local := rfl
  have lf : (iS f).names.lookup f = some .local := by
    show List.lookup f [(("self" : Str), NameKind.local), (f, .local), (("__class__" : Str), .free), (("super" : Str), .globalImplicit)] = _
    simp [List.lookup, n1]
  have lc : (iS f).names.lookup ("__class__" : Str) = some .free := by
    show List.lookup ("__class__" : Str) [(("self" : Str), NameKind.local), (f, .local), (("__class__" : Str), .free), (("super" : Str), .globalImplicit)] = _
    simp only [List.lookup, n3]
    rfl
  have lu : (iS f).names.lookup ("super" : Str) = some .globalImplicit := by
    show List.lookup ("super" : Str) [(("self" : Str), NameKind.local), (f, .local), (("__class__" : Str), .free), (("super" : Str), .globalImplicit)] = _
    simp only [List.lookup, n2]
    rfl
  obtain ⟨cd, hcl⟩ : ∃ cd, clsIn K C = some cd := by
    have z := T.su
    unfold ks_superIn at z
    cases e : clsIn K C with
    | none => rw [e] at z; cases z
    | some cd => exact ⟨cd, rfl⟩
  have hal : alongIn K "__init__" ((cd.mro.dropWhile (· != .ref C)).drop 1) = some (some (.builtin i)) := by
    have z := T.su
    unfold ks_superIn at z
    rw [hcl] at z
    exact z
  refine ks_codeAny_call_defAt (fd := ksFn "__init__" qn (iA f p1 p2) (iB f q1 q2 q3 q4 q5 q6 q7 q8 q9 q10) (iS f) .none .none doc pm an (.ref cda) ct cc) (binds := [("self", .ref x), (f, v)]) hroom (X _ _ ho) rfl hlim (codeRec_of X hcd) rfl (BindsTo.of_eq (T.bd qn _ _ _ _ _ _ _ _ _ _ _ _ _ _ _ _ _ _ _ _)) ?_ ?_ (fun h₁ hns hk₁ => ?_) rfl rfl rfl
  · intro y hy
    have hy' : y ∈ [(("self" : Str), NameKind.local), (f, .local), (("__class__" : Str), .free), (("super" : Str), .globalImplicit)] := hy
    simp only [List.mem_cons, List.not_mem_nil, or_false] at hy'
    rcases hy' with rfl | rfl | rfl | rfl <;> intro z <;> cases z
  · intro y hy
    simp only [List.mem_cons, List.not_mem_nil, or_false] at hy
    rcases hy with rfl | rfl
    · exact ls
    · exact lf
  have hself : (fun y => List.lookup y ([(("self" : Str), Value.ref x), (f, v)] : List (Str × Value)).reverse) ("self" : Str) = some (.ref x) := by
    show List.lookup ("self" : Str) [(f, v), (("self" : Str), Value.ref x)] = _
    have : (("self" : Str) == f) = false := by
      cases e : (("self" : Str) == f) with
      | false => rfl
      | true => rw [← eq_of_beq e] at n1; exact absurd n1 (by decide)
    simp [List.lookup, this]
  have hff : (fun y => List.lookup y ([(("self" : Str), Value.ref x), (f, v)] : List (Str × Value)).reverse) f = some v := by
    show List.lookup f [(f, v), (("self" : Str), Value.ref x)] = _
    simp [List.lookup]
  generalize hL : s.heap.objs.size = L at hns ⊢
  have X₁ : K.In h₁ := X.keeps hk₁
  have hx₁ := hk₁ _ _ hx
  have I₁ : InstAt h₁ x (excO C t0) C none := ⟨hx₁, rfl, rfl, trivial⟩
  obtain ⟨hp, g, d, tk, os⟩ := s
  have hxL : x ≠ L := by
    intro z
    have := Heap.lt_size hx
    rw [z, ← hL] at this
    exact absurd this (Nat.lt_irrefl _)
  have fin : ∀ hp' t', (∀ b o, h₁.get? b = some o → b ≠ x → hp'.get? b = some o) → hp'.get? x = some (excO C t') → hp'.Ns L (fun y => List.lookup y ([(("self" : Str), Value.ref x), (f, v)] : List (Str × Value)).reverse) → K.In hp' → ∀ tk', wpAny (model prog w) (A.deeper (ksEnv qn (iS f) L fI (.ref cda) cc)) (execs [.Assign [.Attribute (.Name "self" q7) f q8] (.Name f q9) q10] (ksEnv qn (iS f) L fI (.ref cda) cc))
      (fun fl s' => R (.ok (.ret (match fl with | .ret v => v | _ => .none))) s') (fun e s' => wpAny (model prog w) (A.deeper (ksEnv qn (iS f) L fI (.ref cda) cc)) (leaving (ksEnv qn (iS f) L fI (.ref cda) cc) e) (fun _ s'' => R (.error e) s'') (fun e' s'' => R (.error e') s'') s') ⟨hp', g, d, tk', os⟩ := by
    intro hp' t' k' hx' hns' X' tk'
    refine wpAny_execs_cons (plainObj_wpAny_Assign_Attribute ?_ rfl)
    refine wpAny_Name (wpAny_loadName_local rfl lf hns' hff (wpAny_Name (wpAny_loadName_local rfl ls hns' hself ?_) (by decide))) n4
    refine set_plain (s := ⟨hp', g, d, tk', os⟩) X' (ox := excO C t') (od := none) ⟨hx', rfl, rfl, trivial⟩ T.sa ?_
    refine sup_osa T.bb X' hx' T.ov T.hdC T.noN (fun h₃ tk₃ dx k₃ dn dne hx₃ hn₃ => ?_)
    show wpAny _ _ (execs _ _) _ _ _
    have z : hp.objs.size ≤ hp'.objs.size := by
      have := hns'.lt
      rw [← hL] at this
      exact Nat.le_of_lt this
    exact wpAny_execs_nil (hq h₃ tk₃ dx t' ⟨fun b o hb e => k₃ b o hb (k' b o (hk₁ b o e) hb), hx₃, Nat.le_trans z dn, dne, hn₃⟩)
  show _root_.PySem.wpAt (model prog w) (A.deeper (ksEnv qn (iS f) L fI (.ref cda) cc)) (.func _ (ksEnv qn (iS f) L fI (.ref cda) cc)) (execs (iB f q1 q2 q3 q4 q5 q6 q7 q8 q9 q10) (ksEnv qn (iS f) L fI (.ref cda) cc)) _ _ _
  refine ks_wpAt_execs_cons ?_
  refine ks_wpAt_Expr_any ?_
  refine ks_wpAt_MethodCall (pl := do return (← importBound (.Call (.Name "super" q1) [] [] q2) (ksEnv qn (iS f) L fI (.ref cda) cc)).getD true) ?_ (by
    rw [arm_eval_Call]
    have hpc : methodCallPos true (.Call (.Name "super" q1) [] [] q2) (ksEnv qn (iS f) L fI (.ref cda) cc) q3 q5 = pure q5 := by
      unfold methodCallPos
      rw [hpos]
      rfl
    show (do
      let ov ← attributeBase (.Call (.Name "super" q1) [] [] q2) "__init__" (ksEnv qn (iS f) L fI (.ref cda) cc) (eval (.Call (.Name "super" q1) [] [] q2) (ksEnv qn (iS f) L fI (.ref cda) cc))
      standAt q3.atName
      let (ff, first) ← holding [ov] (calleeOf true (.Call (.Name "super" q1) [] [] q2) (ksEnv qn (iS f) L fI (.ref cda) cc) ov "__init__")
      let callPos ← methodCallPos true (.Call (.Name "super" q1) [] [] q2) (ksEnv qn (iS f) L fI (.ref cda) cc) q3 q5
      callWith callPos ff first (backTo q5 (starEach [.Name f q4] (ksEnv qn (iS f) L fI (.ref cda) cc))) []) = _
    rw [hpc]
    rfl)
  refine ks_wpAt_super_base (f := fI) (cc := cda) (env := ksEnv qn (iS f) L fI (.ref cda) cc) lu lc rfl rfl (X₁ _ _ ho) rfl rfl rfl (X₁ _ _ hcode) rfl hvs hfile T.top ?_
  refine ks_loadName_global rfl lu (loadGlobal_builtin (env := ksEnv qn (iS f) L fI (.ref cda) cc) (hg.keeps hk₁) hmg (hb.keeps hk₁) hmb ⟨rfl, ?_⟩)
  refine wpAny_loadName_free rfl lc rfl ⟨_, X₁ _ _ hcell, rfl⟩ ?_
  refine wpAny_loadName_local rfl ls hns hself ?_
  obtain ⟨oD, hD1, hD2⟩ : ∃ oD, h₁.get? C = some oD ∧ oD.data = .cls cd := by
    unfold clsIn at hcl
    split at hcl
    · rename_i c d cd' sl ho
      cases hcl
      exact ⟨_, X₁ _ _ ho, rfl⟩
    · cases hcl
  refine ks_wpAny_isType_cls hD1 hD2 ⟨rfl, ?_⟩
  refine ks_wpAny_call_super hD1 hD2 I₁.at_ I₁.cls (fun c e => ?_) (looks_mroIn X₁ T.mr) (fun h₂ e k => ?_)
  · have := I₁.no
    unfold notCls at this
    rw [e] at this
    exact Bool.noConfusion this
  have X₂ : K.In h₂ := X₁.keeps k
  have I₂ : InstAt h₂ x (excO C t0) C none := ⟨k _ _ hx₁, rfl, rfl, trivial⟩
  have hI : Looks (model prog w) h₂ (isInstance (.ref x) (.type B)) true := I₂.type.andThen (looks_subIn X₂ T.sb)
  refine kxs_getMethod T.bb.kf e (looks_opaque X₂ T.op) (l₀ := cd.mro) ?_ rfl X₂ hal hI (ks_ne X₂ I₂ hcl) rfl ?_
  · exact fun A Q E s k q => wpAny_bind ((looks_clsIn X₂ hcl) A _ E s k (wpAny_pure q))
  have k3 : ∀ b o, h₂.get? b = some o → (h₂.push (kxs_mw i x)).get? b = some o := fun b o e => Heap.get?_push_of_some _ e
  have hns3 := (hns.keeps k).keeps k3
  have hs3 : starEach [Expr.Name f q4] (ksEnv qn (iS f) L fI (.ref cda) cc) = (false, eval (.Name f q4) (ksEnv qn (iS f) L fI (.ref cda) cc)) :: starEach [] (ksEnv qn (iS f) L fI (.ref cda) cc) := rfl
  refine kxs_callWith (i := i) (x := x) rfl ?_
  refine evalArgs_plain ?_
  refine Calls.spliced_cons ?_
  refine wpAny_Name (wpAny_loadName_local rfl lf hns3 hff ?_) n4
  refine Calls.spliced_nil ⟨Heap.get?_push_size _ rfl, ?_⟩
  refine sup_call T.bb (X₂.keeps k3) T.q (Heap.get?_push_size _ rfl) (k3 _ _ (k _ _ hx₁)) (one_size v) fun h₄ k4 hx4 => ?_
  refine _root_.PySem.wpAt_of_wpAny (fin h₄ _ (fun b o e hb => k4 b o hb (k3 b o (k b o e))) hx4 (hns3.at fun o e => ?_) (fun a o e => ?_) _)
  · refine k4 _ _ (fun z => hxL z.symm) e
  · refine k4 a o (fun z => ?_) (k3 _ _ (X₂ _ _ e))
    have z1 := X₁ _ _ e
    rw [z, hx₁] at z1
    have z2 := X _ _ e
    exact hnx a o e z
theorem sup_made (T : SupTxt K prog f B newId i bmB C fI) {v : Value} (X : K.In s.heap) (hlim : s.heap.NoLimit) (hg : s.heap.Ns mainGlobals mg) (hmg : mg "super" = none) (hb : s.heap.Ns builtinsNs mb) (hmb : mb "super" = some (.type "super")) (hroom : A.depth + 1 < recursionLimit)
    (hq : ∀ h' tk e d, OwnMade s.heap h' e C d f v → R (.ok (.ret (.ref e))) { s with heap := h', toks := tk }) :
    codeAny (model prog w) A (.call (.ref C) ⟨[v], []⟩) R s := by
  obtain ⟨nm, N', qn, bs, bm, hdct, sn, sub, ab, col, dd, k0, k1, k2, k3, k5, hC, hT⟩ := excInit_of X T.q
  obtain ⟨oI, hoI, hcI⟩ : ∃ oI, s.heap.get? fI = some oI ∧ oI.cls = .type "function" := by
    obtain ⟨o, ho, hc⟩ := Option.map_eq_some_iff.mp (show (K.lookup fI).map (·.cls) = some (.type "function") from beq_iff_eq.mp T.tC)
    exact ⟨o, X _ _ ho, hc⟩
  obtain ⟨hp, g, dr, tk, os⟩ := s
  have k : ∀ b o, hp.get? b = some o → ((hp.push (kdv_tup [v])).push (excO C hp.objs.size)).get? b = some o := fun b o e => Heap.get?_push_of_some _ (Heap.get?_push_of_some _ e)
  have hget : ((hp.push (kdv_tup [v])).push (excO C hp.objs.size)).get? (hp.objs.size + 1) = some (excO C hp.objs.size) := by heap_get
  have hnx : ∀ a o, K.lookup a = some o → a ≠ hp.objs.size + 1 := fun a o e z => by
    have y : hp.get? (hp.objs.size + 1) = some o := by rw [← z]; exact X _ _ e
    exact absurd (Nat.lt_of_succ_lt (Heap.lt_size y)) (Nat.lt_irrefl _)
  refine HandSPX.call_own T.bb.base hT hC (looks_findIn X T.iC) (fun self => exc_bind hoI hcI self) (one_size v) ?_
  refine sup_init (s := ⟨(hp.push (kdv_tup [v])).push (excO C hp.objs.size), g, dr, tk, os⟩) T (X.keeps k) (hlim.keeps k) (hg.keeps k) hmg (hb.keeps k) hmb hget hnx ?_ fun h' tk' dx t1 ⟨k', hx, dn, dne, hns⟩ => ?_
  · show A.depth + 1 < recursionLimit
    exact hroom
  · have old : ∀ b o, hp.get? b = some o → h'.get? b = some o := fun b o e => k' b o (Nat.ne_of_lt (Nat.lt_succ_of_lt (Heap.lt_size e))) (k b o e)
    have z : hp.objs.size + 1 + 1 ≤ dx := by
      first
        | (simpa only [Heap.size_push] using dn)
        | exact dn
    exact ⟨rfl, hq h' tk' (hp.objs.size + 1) dx ⟨old, Nat.le_succ _, ⟨_, _, hx, rfl, rfl, rfl, rfl⟩, Nat.le_trans (Nat.le_trans (Nat.le_succ _) (Nat.le_succ _)) z, dne, hns⟩⟩
end
end SupX
end PySem
namespace L2
open PySem PySem.Spec PyProof.Rows
theorem relO_sup {f : Str} {v : V} {v' : Value} (r : RelV v v') (g : Str) : RelO (List.lookup g [(f, v)]) (if g = f then some v' else none) := by
  by_cases hw : g = f
  · subst hw
    rw [if_pos rfl]
    have q : List.lookup g [(g, v)] = some v := by simp [List.lookup]
    rw [q]
    exact r
  · rw [if_neg hw]
    have qw : (g == f) = false := by simpa using hw
    have q2 : List.lookup g [(f, v)] = none := by simp [List.lookup, qw]
    rw [q2]
    trivial
section
variable {X : Cx} {C fI : Addr} {f : Str} {B newId i : String} {bmB : List Value}
/-- X(e) -/
def tMkSup (C : Addr) (f : Str) (ta : TA) : St → Hp → XK → Prop := fun σ H Q => ta σ H fun vs H1 => ∃ v, vs = [v] ∧ ∀ d, H1 d = none → Q (.ref C) (some d) (upd H1 d (.xd [(f, v)]))
theorem pmk_sup {a : Expr} {ta : TA} {p pos : Pos} {k : Nat} {n : Str} (T : PySem.SupX.SupTxt X.K X.prog f B newId i bmB C fI) (gC : X.mg n = some (.ref C)) (kC : PySem.W.keepIn X.K (.ref C) = true) (rs : Raises X (.ref C)) (hsup : X.mg "super" = none) (hr : Room k X.A) (ha : PA X [a] ta) (hg : Gl X n) (hdb : (n == ("__debug__" : Str)) = false)
    (he : starEach (a :: []) X.env = (false, eval a X.env) :: starEach [] X.env) (hpl : (backTo pos (starEach [] X.env)).any (·.1) = false := by rfl) :
    PMk X (.Call (.Name n p) [a] [] pos) (tMkSup C f ta) := by
  intro pins s σ H Q I h
  refine wpAny_Call_Name_kw (ld_glob I hg gC ?_ hdb)
  refine PySem.W.callWith_K (h₀ := X.base) I.ok.mod.kin kC (thn (ha.run pos pins s σ H _ I h) fun us s1 hh => ?_) he hpl
  obtain ⟨vs, H1, I1, r1, v, ev, q1⟩ := hh
  subst ev
  refine ⟨I1.kIn, ?_⟩
  cases r1 with
  | cons rv rn =>
    rename_i v' us'
    cases rn
    show wpAny _ _ (call (.ref C) [v']) _ _ _
    have hlim := I1.nolimit
    obtain ⟨mb, h1, h2⟩ := I1.mod.blt
    have hgl := I1.mod.glob.keeps I1.bk
    have hbl := h1.keeps I1.bk
    obtain ⟨hp, g, dr, tk, os⟩ := s1
    refine wpAny_call (PySem.SupX.sup_made T I1.kIn hlim hgl hsup hbl ((h2 _ (by decide)).trans (by decide +kernel)) (by have := hr.dp; omega) fun h' tk' e d M => ?_)
    show MkP X pins σ Q (.ref e) ⟨h', g, dr, tk', os⟩
    obtain ⟨oe, fv, hoe, hc, hd, hdat, h1⟩ := M.obj
    have hns := M.ns
    obtain ⟨G', g1, g2⟩ := restrict h' fun b => decide (b ≠ e)
    have gk : ∀ b, b ≠ e → G'.get? b = h'.get? b := fun b hb => g1 b (decide_eq_true hb)
    have ge : G'.get? e = none := g2 e (by simp)
    have old : ∀ b o, hp.get? b = some o → G'.get? b = some o := fun b o q => (gk b (Nat.ne_of_lt (Nat.lt_of_lt_of_le (Heap.lt_size q) M.new))).trans (M.keep b o q)
    have ob : ObjOk X.prog X.w (upd H1 d (.xd [(f, v)])) G' d (.xd [(f, v)]) :=
      ⟨_, hns.at (fun o q => (gk d M.dne).trans q), fun f => relO_sup rv f⟩
    have J : Inv X pins σ (upd H1 d (.xd [(f, v)])) ⟨G', g, dr, tk', os⟩ := I1.laid (t' := tk') old M.dbig ob
    refine ⟨e, oe, fv, ⟨G', g, dr, tk', os⟩, _, .ref C, some d, rfl, J, fun b o q => ?_, ge, hoe, ⟨hc, hd⟩, hdat, h1, ?_, rfl, I1.bare, rs, q1 d (I1.hok.fresh M.dbig)⟩
    · by_cases hb : b = e
      · have q' : G'.get? b = some o := q
        rw [hb, ge] at q'; cases q'
      · exact (gk b hb).symm.trans q
    · rw [upd_ne (Ne.symm M.dne)]
      exact I1.hok.fresh M.new
end
end L2


set_option Elab.async false
set_option linter.all false
set_option autoImplicit false
set_option maxRecDepth 100000
/-! what is checked is sound -/
namespace Ra
open PySem PySem.Spec PyProof.Rows L2
/-- the value of an error's class, what it carries -/
def cvM (mg : Str → Option Value) (xs : List XCl) (c : Nat) : Value × Str := match xs[c]? with
  | some i => ((mg i.nm).getD .none, i.fd.getD ⟨#[]⟩)
  | none => (.none, ⟨#[]⟩)
def xBase : Bool → List Value
  | true => [.type "LookupError", .type "Exception", .type "BaseException", .type "object"]
  | false => [.type "ValueError", .type "Exception", .type "BaseException", .type "object"]
def xNew : Bool → String
  | true => "LookupError.__new__"
  | false => "ValueError.__new__"
/-- how an error of the class is made -/
def MkX (K : PySem.W.Frag) (P : Program) (C : Addr) (lk : Bool) : Option Str → Prop
  | none => PySem.W.excIn K C (xBase lk) (xNew lk) = true
  | some f => ∃ (fI : Addr) (B newId i : String) (bm : List Value), PySem.SupX.SupTxt K P f B newId i bm C fI ∧ XfC K C
structure FnGood (X : Cx) (cv : Nat → Value × Str) (call : Call) (i : Nat) (x : Str) (ps : List Str) (pms : List (List Str × List Nat)) : Prop where
  at_ : ∃ (f : Addr) (fd : FuncData) (k : Nat), X.mg x = some (.ref f) ∧ PySem.W.keepIn X.K (.ref f) = true ∧ Binds X.K fd ps [] ∧ (∀ q ∈ pms, q.1.length = ps.length ∧ q.2.length = ps.length ∧ (∀ j ∈ q.2, j < ps.length) ∧ ∀ (s : Shared) (ws : List Value), ws.length = ps.length → BindsTo s fd ⟨[], q.1.zip ws⟩ (ps.zip (pick q.2 ws))) ∧
    FnOk X.prog X.w X.K X.mg X.base (L2.CX X.prog X.w) k f fd ps (spOf X.K cv ps.length (call i)) ∧ Room k X.A
/-- what is known of an error's class -/
structure XcG (X : Cx) (xs : List XCl) (c : Nat) (n : XCl) : Prop where
  ex : ∃ C : Addr, X.mg n.nm = some (.ref C) ∧ MkX X.K X.prog C n.lk n.fd ∧ PySem.W.keepIn X.K (.ref C) = true ∧ Raises X (.ref C) ∧ ExcC X.K C ∧ (PySem.W.kitOne X.K (.ref C) (.type "ValueError") = some (!n.lk) ∧ PySem.W.kitOne X.K (.ref C) (.type "LookupError") = some n.lk) ∧
    ∀ (c' : Nat) (n' : XCl), xs[c']? = some n' → ∃ C' : Addr, X.mg n'.nm = some (.ref C') ∧ PySem.W.exmOne X.K (.ref C) (.ref C') = some (decide (c = c'))
structure Goo (C : Cs) (call : Call) (sc : Scope) (fb : Str → Bool) (X : Cx) : Prop where
  hsc : X.env.scope = sc
  kind : sc.kind = .function
  N : X.N = C.N
  nd : C.N.Nodup
  calm : X.calm = true
  fn : X.fn = fb
  free : ∀ x ∈ C.free, X.mg x = none
  glo : ∀ x d, C.glo.lookup x = some d → ∃ u v, X.mg x = some u ∧ RelV v u ∧ flatD d = some v
  fns : ∀ i x ps pms, C.fns[i]? = some (x, ps, pms) → FnGood X (cvM X.mg C.xs) call i x ps pms
  xcs : ∀ c n, C.xs[c]? = some n → XcG X C.xs c n
  units : X.A.units + 200 < cLine
  room : ∃ k, Room k X.A
/-- .. of a def's statements -/
structure GooS (C : Cs) (call : Call) (sc : Scope) (fb : Str → Bool) (X : Cx) (Z : Zx) : Prop where
  goo : Goo C call sc fb X
  wx : ∃ E : XK, Z = zE X.K (cvM X.mg C.xs) E ∧ Arnd X (fun cls d _ H => E cls d H)
section
variable {C : Cs} {call : Call} {sc : Scope} {fb : Str → Bool} {X : Cx}
theorem vis_ok (G : Goo C call sc fb X) {x : Str} (h : visB sc x = true) : Vis X.env.scope x := by
  unfold visB at h
  rw [G.hsc]
  unfold Vis
  split at h
  · rename_i e; exact .inl e
  · rename_i e; exact .inr (.inl e)
  · rename_i e; exact .inr (.inr e)
  · cases h
theorem loc_ok (G : Goo C call sc fb X) {x : Str} (h : locB sc x = true) : Loc X.env.scope x := by
  unfold locB at h
  rw [G.hsc]
  unfold L2.Loc
  split at h
  · rename_i e; exact .inl e
  · rename_i e; exact .inr e
  · cases h
theorem lcl_ok (G : Goo C call sc fb X) {x : Str} (h : lclB sc x = true) : X.env.scope.names.lookup x = some .local := by
  unfold lclB at h
  rw [G.hsc]
  split at h
  · rename_i e; exact e
  · cases h
theorem gl_ok (G : Goo C call sc fb X) {x : Str} (h : gloB sc x = true) : Gl X x := by
  unfold gloB at h
  show X.env.scope.names.lookup x = _
  rw [G.hsc]
  split at h
  · rename_i e; exact e
  · cases h
theorem blt_ok (G : Goo C call sc fb X) {x : Str} (h : bltB C sc x = true) : Gl X x ∧ X.mg x = none ∧ okName x = true := by
  unfold bltB at h
  simp only [Bool.and_eq_true, decide_eq_true_eq] at h
  exact ⟨gl_ok G h.1.2, G.free x h.1.1, h.2⟩
/-- the block of a comprehension -/
theorem Goo.blk (G : Goo C call sc fb X) {scope : Scope} (hk : scope.kind = .function) (s : Shared) (H : Hp) (a : Addr) (cl : List (Str × Addr)) (fp : List Addr) : Goo C call (relS scope sc) (cellB scope) (X.blk s H scope (compEnvC scope cl a X.env) fp) where
  hsc := by
    show relS scope X.env.scope = _
    rw [G.hsc]
  kind := hk
  N := G.N
  nd := G.nd
  calm := G.calm
  fn := rfl
  free := G.free
  glo := G.glo
  fns := fun i x ps pms h => by
    obtain ⟨f, fd, k, h1, h2, h3, h4, h5, h6⟩ := (G.fns i x ps pms h).at_
    exact ⟨f, fd, k, h1, h2, h3, h4, h5, h6⟩
  xcs := fun c n h => by
    obtain ⟨C, h1, h2, h3, h4, h5, h6, h7⟩ := (G.xcs c n h).ex
    exact ⟨C, h1, h2, h3, h4, h5, h6, h7⟩
  units := G.units
  room := G.room
mutual
theorem soundT (G : Goo C call sc fb X) : ∀ (t : Tg) (e : Expr), chkT C.N sc fb t e = true → PG X e (gT X.K t)
  | .nm i, e, h => by
    cases e with
    | Name x q =>
      simp only [chkT, Bool.and_eq_true, decide_eq_true_eq] at h
      obtain ⟨⟨h1, h2⟩, h3⟩ := h
      refine pg_nameR (by rw [G.N]; exact G.nd) (by rw [G.N]; exact h1) (loc_ok G h2) ?_
      rcases Bool.or_eq_true_iff.mp h3 with h3 | h3
      · exact .inl (by rw [G.fn]; exact h3)
      · exact .inr (lcl_ok G h3)
    | _ => simp [chkT] at h
  | .tp ts, e, h => by
    cases e with
    | Tuple es k q =>
      simp only [chkT] at h
      obtain ⟨h1, h2, h3⟩ := soundTs G ts es h
      exact pg_tupR G.calm h1 h2 h3
    | _ => simp [chkT] at h
theorem soundTs (G : Goo C call sc fb X) : ∀ (ts : List Tg) (es : List Expr), chkTs C.N sc fb ts es = true → PGs X es (gTs X.K ts) ∧ es.all notStar = true ∧ es.length = ts.length
  | [], [], _ => ⟨pgs_nilR, rfl, rfl⟩
  | [], _ :: _, h => by simp [chkTs] at h
  | _ :: _, [], h => by simp [chkTs] at h
  | t :: ts, e :: es, h => by
    simp only [chkTs, Bool.and_eq_true] at h
    obtain ⟨⟨h1, h2⟩, h3⟩ := h
    obtain ⟨a, b, c⟩ := soundTs G ts es h3
    exact ⟨pgs_consR (soundT G t e h2) a h1, by simp [h1, b], by simp [c]⟩
end
/-- the parts of a list -/
inductive AllP (X : Cx) : List Expr → List P → Prop
  | nil : AllP X [] []
  | cons {e : Expr} {es : List Expr} {p : P} {ps : List P} : PE X e (tE X.K p.v) → PT X e (tT X.K p.t) → notStar e = true → AllP X es ps → AllP X (e :: es) (p :: ps)
theorem AllP.items : ∀ {es : List Expr} {ps : List P}, AllP X es ps → PA X es (tIt X.K (cItems ps))
  | _, _, .nil => pa_items_nil
  | _, _, .cons a _ c d => pa_items_cons a d.items c
theorem AllP.args : ∀ {es : List Expr} {ps : List P}, AllP X es ps → PA X es (tAr X.K (cArgs ps))
  | _, _, .nil => pa_args_nil
  | _, _, .cons a _ c d => pa_args_cons a d.args c
theorem AllP.stars : ∀ {es : List Expr} {ps : List P}, AllP X es ps → es.all notStar = true
  | _, _, .nil => rfl
  | _, _, .cons _ _ c d => by simp [c, d.stars]
theorem AllP.len : ∀ {es : List Expr} {ps : List P}, AllP X es ps → es.length = ps.length
  | _, _, .nil => rfl
  | _, _, .cons _ _ c d => by simp [d.len]
theorem AllP.and {pos : Pos} : ∀ {es : List Expr} {ps : List P}, AllP X es ps → es ≠ [] → PE X (.BoolOp .And es pos) (tE X.K (cAnd ps)) ∧ PW X (.BoolOp .And es pos) (tT X.K (tAnd ps))
  | _, _, .nil, h => absurd rfl h
  | _, _, .cons a b _ .nil, _ => ⟨pe_andR1 a, pw_andR1 b⟩
  | _, _, .cons a b _ (.cons a' b' c' d'), _ => by
    obtain ⟨h1, h2⟩ := AllP.and (pos := pos) (.cons a' b' c' d') (by simp)
    exact ⟨pe_andR a h1, pw_andR b h2⟩
theorem AllP.or {pos : Pos} : ∀ {es : List Expr} {ps : List P}, AllP X es ps → es ≠ [] → PE X (.BoolOp .Or es pos) (tE X.K (cOr ps)) ∧ PW X (.BoolOp .Or es pos) (tT X.K (tOr ps))
  | _, _, .nil, h => absurd rfl h
  | _, _, .cons a b _ .nil, _ => ⟨pe_orR1 a, pw_orR1 b⟩
  | _, _, .cons a b _ (.cons a' b' c' d'), _ => by
    obtain ⟨h1, h2⟩ := AllP.or (pos := pos) (.cons a' b' c' d') (by simp)
    exact ⟨pe_orR a h1, pw_orR b h2⟩
theorem AllP.kw : ∀ {kws : List Keyword} {ps : List P}, AllP X (kwE kws) ps → PK X kws (tAr X.K (cArgs ps))
  | [], _, .nil => ⟨fun pos pins s σ H Q I ⟨env, m, g, hs, hm, hz⟩ => pk_nil.run pos pins s σ H Q I (Rz.ok_now hz hm [] .nil)⟩
  | ⟨n, e, kp⟩ :: r, _, .cons (p := p) (ps := ps) a _ c d => by
    refine ⟨fun pos pins s σ H Q I ⟨env, m, g, hs, hm, hz⟩ => (pk_cons a (AllP.kw d)).run pos pins s σ H Q I ?_⟩
    refine ⟨env, m, g, hs, hm, (Rz.bind hz).mono fun v m1 g1 H1 e1 s1 z1 x rx => ?_⟩
    obtain ⟨g2, s2, e2, r2⟩ := s1.hold rx
    refine ⟨env, m1, g2, (hs.ext e1).ext e2, s2, (Rz.bind (z1.ext e2)).mono fun vs m3 g3 H3 e3 s3 z3 xs rxs => ?_⟩
    exact Rz.ok_now z3 s3 (x :: xs) (.cons (r2.ext e3 (nf_ne v)) (nf_ne v) rxs)
/-- as a plain value and test -/
theorem both {e : Expr} {v : EV} (h : PE X e (tE X.K v)) (he : ∀ whole, isTrue e X.env whole = (do let v ← whole; standAt e.pos; holding [v] (truthy v))) : PE X e (tE X.K (ofV v).v) ∧ PT X e (tT X.K (ofV v).t) :=
  ⟨h, pt_R (p := ofV v) h he rfl⟩
theorem op_of (o : Bop) {op : Operator} (h : bopB o op = true) : OpR X (binaryOp op) (rOp X.K fun x y m => optR (bop o x y) m) := by
  cases o with
  | add => cases op <;> first | (exact absurd h (by decide)) | exact or_add
  | sub => cases op <;> first | (exact absurd h (by decide)) | exact or_sub
  | mul => cases op <;> first | (exact absurd h (by decide)) | exact or_mul
  | fdiv => cases op <;> first | (exact absurd h (by decide)) | exact or_fdiv
  | mod => cases op <;> first | (exact absurd h (by decide)) | exact or_mod
  | pow => cases op <;> first | (exact absurd h (by decide)) | exact or_pow
theorem cmp_of (hu : X.A.units + 200 < cLine) (o : Cop) {op : CmpOp} (h : copB o op = true) : OpR X (compareOp op) (rOp X.K (cmpR o)) := by
  cases o with
  | eq => cases op <;> first | (exact absurd h (by decide)) | exact or_eq hu
  | ne => cases op <;> first | (exact absurd h (by decide)) | exact or_ne hu
  | lt => cases op <;> first | (exact absurd h (by decide)) | exact or_lt hu
  | le => cases op <;> first | (exact absurd h (by decide)) | exact or_le
  | gt => cases op <;> first | (exact absurd h (by decide)) | exact or_gt
  | ge => cases op <;> first | (exact absurd h (by decide)) | exact or_ge
  | isin => cases op <;> first | (exact absurd h (by decide)) | exact or_in hu
  | notin => cases op <;> first | (exact absurd h (by decide)) | exact or_notin hu
end
end Ra


set_option Elab.async false
set_option linter.all false
set_option autoImplicit false
set_option maxRecDepth 100000
/-! expressions that are checked are sound -/
namespace Ra
open PySem PySem.Spec PyProof.Rows L2
abbrev Bo (X : Cx) (e : Expr) (p : P) : Prop := PE X e (tE X.K p.v) ∧ PT X e (tT X.K p.t)
abbrev SE (C : Cs) (call : Call) (f : Ck) (p : P) : Prop := ∀ (e : Expr) (sc : Scope) (fb : Str → Bool) (X : Cx), Goo C call sc fb X → f sc fb e = true → Bo X e p
abbrev SL (C : Cs) (call : Call) (f : CkL) (ps : List P) : Prop := ∀ (es : List Expr) (sc : Scope) (fb : Str → Bool) (X : Cx), Goo C call sc fb X → f sc fb es = true → AllP X es ps
section
variable {C : Cs} {call : Call}
theorem s_var (i : Nat) : SE C call (kVar C i) (ofV fun env m => optR (getV env i) m) := by
  intro e sc fb X G h
  unfold kVar at h
  split at h
  · simp only [Bool.and_eq_true, decide_eq_true_eq] at h
    obtain ⟨o1, o2, o3⟩ := okName_ok h.2
    exact both (pe_varR (by rw [G.N]; exact h.1.1) (vis_ok G h.1.2) o1 o2) fun _ => rfl
  · cases h
theorem s_cst (c : PyData) : SE C call (kCst c) (ofV fun _ m => .ok (.d c) m) := by
  intro e sc fb X G h
  unfold kCst at h
  split at h
  · rename_i k _ _
    unfold cstB at h
    split at h
    · exact both (cst_ok (fun _ _ => .non) pe_non) fun _ => rfl
    · have h' := eq_of_beq h
      subst h'
      exact both (cst_ok (fun _ _ => .bl _) pe_bl) fun _ => rfl
    · have h' := of_decide_eq_true h
      subst h'
      exact both (cst_ok (fun _ _ => .int _) pe_int) fun _ => rfl
    · obtain ⟨h1, h2⟩ := Bool.and_eq_true_iff.mp h
      have h' := of_decide_eq_true h1
      subst h'
      exact both (cst_ok (fun _ _ => .str _ h2) pe_str) fun _ => rfl
    · cases h
  · cases h
theorem s_glo (c : PyData) : SE C call (kGlo C c) (ofV fun _ m => .ok (.d c) m) := by
  intro e sc fb X G h
  unfold kGlo at h
  split at h
  · rename_i x q
    simp only [Bool.and_eq_true] at h
    obtain ⟨⟨h1, h2⟩, h3⟩ := h
    obtain ⟨o1, o2, o3⟩ := okName_ok h2
    split at h3
    · rename_i d hd
      obtain ⟨h4, h5⟩ := Bool.and_eq_true_iff.mp h3
      have hdc := beq_ok _ _ h4
      subst hdc
      obtain ⟨u, v, k1, k2, k3⟩ := G.glo x d hd
      exact both (cst_ok (fun F H => flat_rp k3 F H) (pe_glob (gl_ok G h1) k1 k2 o1)) fun _ => rfl
    · cases h3
  · cases h
theorem s_tup {f : CkL} {ps : List P} {n : Nat} (hf : SL C call f ps) (hn : ps.length = n) : SE C call (kTup n f) (ofV (cTup ps)) := by
  intro e sc fb X G h
  unfold kTup at h
  split at h
  · obtain ⟨h1, h2⟩ := Bool.and_eq_true_iff.mp h
    exact both (pe_tupR (hf _ sc fb X G h1).items (by rw [hn]; exact of_decide_eq_true h2)) fun _ => rfl
  · cases h
theorem s_lst {f : CkL} {ps : List P} {n : Nat} (hf : SL C call f ps) (hn : ps.length = n) : SE C call (kLst n f) (ofV (cLst ps)) := by
  intro e sc fb X G h
  unfold kLst at h
  split at h
  · obtain ⟨h1, h2⟩ := Bool.and_eq_true_iff.mp h
    exact both (pe_lstR (hf _ sc fb X G h1).items (by rw [hn]; exact of_decide_eq_true h2)) fun _ => rfl
  · cases h
theorem fn_ok {X : Cx} {sc : Scope} {fb : Str → Bool} (G : Goo C call sc fb X) {x : Str} {g n : Nat} (h : fnB C x g n = true) : ∃ ps pms, ps.length = n ∧ FnGood X (cvM X.mg C.xs) call g x ps pms := by
  unfold fnB at h
  split at h
  · rename_i y ps pms hy
    simp only [Bool.and_eq_true, decide_eq_true_eq] at h
    obtain ⟨rfl, h2⟩ := h
    exact ⟨ps, pms, h2, G.fns g x ps pms hy⟩
  · cases h
theorem call_pe {X : Cx} {sc : Scope} {fb : Str → Bool} (G : Goo C call sc fb X) {x : Str} {g : Nat} {xs : List Expr} {ps : List P} {q pos : Pos} (ha : AllP X xs ps) (hg : gloB sc x = true) (ok : okName x = true) (hf : fnB C x g ps.length = true) :
    ∃ E, PE X (.Call (.Name x q) xs [] pos) (tCall (spOf X.K (cvM X.mg C.xs) ps.length (call g)) [] E (tAr X.K (cArgs ps))) := by
  obtain ⟨pn, pms, hpn, f, fd, k, h1, h2, h3, _, h5, h6⟩ := fn_ok G hf
  obtain ⟨o1, o2, o3⟩ := okName_ok ok
  rw [hpn] at h5
  cases ha with
  | nil =>
    refine ⟨E0, PE.weak (pe_call0 (dvs := []) (E := E0) h5 h6 (gl_ok G hg) h1 h2 h3 .nil passL o1) fun σ H Q h => ?_⟩
    obtain ⟨env, m, g, hs, hm, hz⟩ := h
    exact Rz.ok_now hz hm [] .nil
  | cons a b c d => exact ⟨E0, pe_call (dvs := []) (E := E0) h5 h6 (gl_ok G hg) h1 h2 h3 .nil passL (AllP.cons a b c d).args o1 (star1 c _ _) (star_plain _ _ _ d.stars)⟩
theorem s_call {f : CkL} {ps : List P} {g n : Nat} (hf : SL C call f ps) (hn : ps.length = n) : SE C call (kCall C g n f) (ofV (cCall call g ps)) := by
  intro e sc fb X G h
  unfold kCall at h
  split at h
  · simp only [Bool.and_eq_true] at h
    obtain ⟨⟨⟨h1, h2⟩, h3⟩, h4⟩ := h
    obtain ⟨E, hE⟩ := call_pe G (hf _ sc fb X G h1) h2 h3 (by rw [hn]; exact h4)
    exact both (PE.weak hE fun _ _ _ q => call_ok q) fun _ => rfl
  · cases h
theorem s_callc {f : CkL} {ps : List P} {g n : Nat} (hf : SL C call f ps) (hn : ps.length = n) : SE C call (kCall C g n f) (ofV (cCallC call g ps)) := by
  intro e sc fb X G h
  unfold kCall at h
  split at h
  · simp only [Bool.and_eq_true] at h
    obtain ⟨⟨⟨h1, h2⟩, h3⟩, h4⟩ := h
    obtain ⟨E, hE⟩ := call_pe G (hf _ sc fb X G h1) h2 h3 (by rw [hn]; exact h4)
    exact both (PE.weak hE fun _ _ _ q => callc_ok q) fun _ => rfl
  · cases h
theorem kw_names {X : Cx} {pos : Pos} : ∀ (kws : List Keyword) {ps : List Str}, ps.map some = kwN kws → (backToKw pos (keywordEach kws X.env)).all (·.1.isSome) = true ∧ (backToKw pos (keywordEach kws X.env)).filterMap (·.1) = ps ∧ (backToKw pos (keywordEach kws X.env)).any (·.1.isNone) = false
  | [], [], _ => ⟨rfl, rfl, rfl⟩
  | [], _ :: _, h => by cases h
  | ⟨n, e, q⟩ :: r, [], h => by cases h
  | ⟨n, e, q⟩ :: r, p :: ps, h => by
    simp only [List.map_cons, kwN, List.cons.injEq] at h
    obtain ⟨rfl, h2⟩ := h
    obtain ⟨a, b, c⟩ := kw_names (X := X) (pos := pos) r h2
    simp only [keywordEach, backToKw, List.map_cons, List.all_cons, List.any_cons, List.filterMap_cons] at a b c ⊢
    exact ⟨by simpa using a, congrArg (List.cons p) b, by simpa using c⟩
theorem pick_cons {α : Type} {i : Nat} {is : List Nat} {l : List α} {x : α} (h : l[i]? = some x) : pick (i :: is) l = x :: pick is l := by
  unfold pick
  rw [List.filterMap_cons, h]
theorem pick_len {α : Type} {l : List α} : ∀ {is : List Nat}, (∀ j ∈ is, j < l.length) → (pick is l).length = is.length
  | [], _ => rfl
  | i :: is, h => by
    rw [pick_cons (List.getElem?_eq_getElem (h i List.mem_cons_self)), List.length_cons, pick_len fun j hj => h j (List.mem_cons_of_mem _ hj), List.length_cons]
theorem vals_at : ∀ {zs : List V} {ws : List Value} (i : Nat), Vals zs ws → i < zs.length → ∃ z w, zs[i]? = some z ∧ ws[i]? = some w ∧ RelV z w
  | _, _, i, .nil, h => by simp at h
  | _, _, 0, .cons r t, _ => ⟨_, _, rfl, rfl, r⟩
  | _, _, i + 1, .cons r t, h => by
    obtain ⟨z, w, a, b, c⟩ := vals_at i t (by simpa using h)
    exact ⟨z, w, by simpa using a, by simpa using b, c⟩
theorem pick_vals {zs : List V} {ws : List Value} (r : Vals zs ws) : ∀ {is : List Nat}, (∀ j ∈ is, j < zs.length) → Vals (pick is zs) (pick is ws)
  | [], _ => .nil
  | i :: is, h => by
    obtain ⟨z, w, a, b, c⟩ := vals_at i r (h i List.mem_cons_self)
    rw [pick_cons a, pick_cons b]
    exact .cons c (pick_vals r fun j hj => h j (List.mem_cons_of_mem _ hj))
theorem rps_at {K : PySem.W.Frag} {g : G} {H : Hp} : ∀ {xs : List V} {vs : List Val} (i : Nat), RpVs K g H xs vs → i < xs.length → ∃ x v, xs[i]? = some x ∧ vs[i]? = some v ∧ RpV K g H x v ∧ ∀ ys, v ≠ .fr ys
  | _, _, i, .nil, h => by simp at h
  | _, _, 0, .cons r f t, _ => ⟨_, _, rfl, rfl, r, f⟩
  | _, _, i + 1, .cons r f t, h => by
    obtain ⟨x, v, a, b, c, d⟩ := rps_at i t (by simpa using h)
    exact ⟨x, v, by simpa using a, by simpa using b, c, d⟩
theorem pick_rps {K : PySem.W.Frag} {g : G} {H : Hp} {xs : List V} {vs : List Val} (r : RpVs K g H xs vs) : ∀ {is : List Nat}, (∀ j ∈ is, j < xs.length) → RpVs K g H (pick is xs) (pick is vs)
  | [], _ => .nil
  | i :: is, h => by
    obtain ⟨x, v, a, b, c, d⟩ := rps_at i r (h i List.mem_cons_self)
    rw [pick_cons a, pick_cons b]
    exact .cons c d (pick_rps r fun j hj => h j (List.mem_cons_of_mem _ hj))
/-- a def called by its parameters' names -/
theorem run_kw {X : Cx} {k : Nat} {f : Addr} {fd : FuncData} {ps : List Str} {sp : Sp} {ks : List Str} {is : List Nat} {pins : List (Addr × Obj)} {σ : L2.St} {H : Hp} {s : Shared} {Q : VK} {ws : List Value} {zs : List V} (F : FnOk X.prog X.w X.K X.mg X.base (L2.CX X.prog X.w) k f fd ps sp) (hr : Room k X.A)
    (hb : ∀ (s : Shared) (ws : List Value), ws.length = ps.length → BindsTo s fd ⟨[], ks.zip ws⟩ (ps.zip (pick is ws))) (I : Inv X pins σ H s) (rz : Vals zs ws) (hl : zs.length = ps.length) (hi : ∀ j ∈ is, j < zs.length) (h : sp (pick is zs) H Q E0) : wpAny (model X.prog X.w) X.A (PySem.call (.ref f) [] (ks.zip ws)) (EP X pins σ Q) X.xe s := by
  refine wpAny_call (codeAny_mono (F.run X.A X.stack s H ⟨[], ks.zip ws⟩ (pick is ws) (pick is zs) Q E0 hr I.env0 (hb s ws (by rw [← rz.length]; exact hl)) (pick_vals rz hi) h) fun r s' hq => ?_)
  cases r with
  | error e => exact passL pins σ H s e s' I hq
  | ok fl =>
    cases fl with
    | ret u => exact I.after hq
    | next => exact False.elim hq
    | brk => exact False.elim hq
    | cont => exact False.elim hq
theorem callk_ok {K : PySem.W.Frag} {call : Call} {f : Nat} {cv : Nat → Value × Str} {ps : List P} {is : List Nat} {σ : L2.St} {H : Hp} {Q : VK} (hil : is.length = ps.length) (hi : ∀ j ∈ is, j < ps.length) (h : tE K (cCallK call f is ps) σ H Q) : tAr K (cArgs ps) σ H fun xs H1 => xs.length = ps.length ∧ spOf K cv ps.length (call f) (pick is xs) H1 Q E0 := by
  obtain ⟨env, m, g, hs, hm, hz⟩ := h
  refine ⟨env, m, g, hs, hm, ?_⟩
  have hz' := Rz.bind hz
  cases h1 : cArgs ps env m with
  | fail => rw [h1] at hz'; exact hz'.elim
  | exc a b => rw [h1] at hz'; exact hz'.elim
  | ok vs m1 =>
    rw [h1] at hz'
    intro g1 H1 e1 s1 xs rxs
    have hl : xs.length = ps.length := by rw [rxs.length, cArgs_len ps h1]
    have hi' : ∀ j ∈ is, j < xs.length := fun j hj => by rw [hl]; exact hi j hj
    exact ⟨hl, by rw [pick_len hi', hil], pick is vs, m1, g1, s1, pick_rps rxs hi', (hz' g1 H1 e1 s1).rx⟩
theorem s_callk {f : CkL} {ps : List P} {g n : Nat} {is : List Nat} (hf : SL C call f ps) (hn : ps.length = n) : SE C call (kCallk C g is n f) (ofV (cCallK call g is ps)) := by
  intro e sc fb X G h
  unfold kCallk at h
  split at h
  · rename_i x q kw kws pos
    simp only [Bool.and_eq_true] at h
    obtain ⟨⟨⟨h1, h2⟩, h3⟩, h4⟩ := h
    obtain ⟨o1, o2, o3⟩ := okName_ok h3
    split at h4
    · rename_i y pn pms hy
      simp only [Bool.and_eq_true, decide_eq_true_eq] at h4
      obtain ⟨⟨⟨rfl, h5⟩, h7⟩, h6⟩ := h4
      obtain ⟨fa, fd, k, k1, k2, k3, k4, k5, k6⟩ := (G.fns g x pn pms hy).at_
      obtain ⟨a, b, c⟩ := kw_names (X := X) (pos := pos) (kw :: kws) h5
      have hk := (hf _ sc fb X G h1).kw
      have hlen : pn.length = ps.length := by rw [h6, hn]
      obtain ⟨l1, l2, l3, l4⟩ := k4 _ h7
      rw [hlen] at k5
      refine both ⟨fun pins s σ H Q I hq => ?_⟩ fun _ => rfl
      have hq := callk_ok (cv := cvM X.mg C.xs) (is := is) (l2.trans hlen) (fun j hj => by rw [← hlen]; exact l3 j hj) hq
      refine wpAny_Call_Name_kw (ld_glob I (gl_ok G h2) k1 ?_ o1)
      refine PySem.W.callWith_KW0 (h₀ := X.base) I.ok.mod.kin k2 a (thn (hk.run pos pins s σ H _ I hq) fun ws s2 ⟨zs, H2, I2, rz, q2⟩ => ⟨I2.kIn, ?_⟩) (by rw [c]; rfl)
      rw [b]
      exact run_kw k5 k6 l4 I2 rz (by rw [hlen]; exact q2.1) (fun j hj => by rw [q2.1, ← hlen]; exact l3 j hj) q2.2
    · cases h4
  · cases h
theorem s_op {f g : Ck} {pa pb : P} (o : Bop) (ha : SE C call f pa) (hb : SE C call g pb) : SE C call (kOp o f g) (ofV (c2 pa pb fun x y m => optR (bop o x y) m)) := by
  intro e sc fb X G h
  unfold kOp at h
  split at h
  · simp only [Bool.and_eq_true] at h
    obtain ⟨⟨h1, h2⟩, h3⟩ := h
    exact both (pe_c2 (ha _ sc fb X G h2).1 (hb _ sc fb X G h3).1 (op_of o h1)) fun _ => rfl
  · cases h
theorem s_neg {f : Ck} {pa : P} (ha : SE C call f pa) : SE C call (kNeg f) (ofV (c1 pa fun x m => match x with
      | .int i => .ok (.d (.int (-i))) m
      | _ => .fail)) := by
  intro e sc fb X G h
  unfold kNeg at h
  split at h
  · exact both (pe_negR (ha _ sc fb X G h).1) fun _ => rfl
  · cases h
theorem s_cmp {f g : Ck} {pa pb : P} (o : Cop) (ha : SE C call f pa) (hb : SE C call g pb) : SE C call (kCmp o f g) (ofV (c2 pa pb (cmpR o))) := by
  intro e sc fb X G h
  unfold kCmp at h
  split at h
  · simp only [Bool.and_eq_true, Bool.not_eq_true'] at h
    obtain ⟨⟨⟨h1, h2⟩, h3⟩, h4⟩ := h
    have ho := cmp_of (X := X) G.units o h1
    exact ⟨pe_cmpE ho h2 (ha _ sc fb X G h3).1 (hb _ sc fb X G h4).1, pt_cmpE ho h2 (ha _ sc fb X G h3).1 (hb _ sc fb X G h4).1⟩
  · cases h
theorem s_chain {f g k : Ck} {pa pb pc : P} (o o' : Cop) (ha : SE C call f pa) (hb : SE C call g pb) (hc : SE C call k pc) : SE C call (kChain o o' f g k) (ofV (cChain o o' pa pb pc)) := by
  intro e sc fb X G h
  unfold kChain at h
  split at h
  · simp only [Bool.and_eq_true, Bool.not_eq_true'] at h
    obtain ⟨⟨⟨⟨⟨h1, h2⟩, h3⟩, h4⟩, h5⟩, h6⟩ := h
    have ho := cmp_of (X := X) G.units o h1
    have ho' := cmp_of (X := X) G.units o' h2
    have hE := (ha _ sc fb X G h4).1
    have hE2 := (hb _ sc fb X G h5).1
    have hE3 := (hc _ sc fb X G h6).1
    refine ⟨pe_chainE ho ho' h3 hE hE2 hE3, ?_⟩
    refine PT.weak (pt_chain ho ho' hE hE2 hE3 h3) fun σ H Q hq => ?_
    exact chain_ok (chain_bool hq)
  · cases h
theorem s_isN {f : Ck} {pa : P} (ha : SE C call f pa) : SE C call (kIsN f) (ofV (c1 pa fun x m => boolR (isNone x) m)) := by
  intro e sc fb X G h
  unfold kIsN at h
  split at h
  · have hE := (ha _ sc fb X G h).1
    refine ⟨pe_isNR hE, PT.weak (pt_cmpR op_isN hE pe_non (nomark _)) fun σ H Q hq => ?_⟩
    obtain ⟨env, m, g, hs, hm, hz⟩ := c1_ok (c1_bool hq)
    refine ⟨env, m, g, hs, hm, hz.mono fun v m1 g1 H1 e1 s1 z1 x rx => ⟨rfl, ?_⟩⟩
    obtain ⟨m2, g2, d, s2, r2, z2⟩ := z1 x rx
    rw [← none_iff r2]
    exact ans_d s2 z2 (.bl _)
  · cases h
theorem s_isnN {f : Ck} {pa : P} (ha : SE C call f pa) : SE C call (kIsnN f) (ofV (c1 pa fun x m => boolR (!isNone x) m)) := by
  intro e sc fb X G h
  unfold kIsnN at h
  split at h
  · have hE := (ha _ sc fb X G h).1
    refine ⟨pe_isnNR hE, PT.weak (pt_cmpR op_notN hE pe_non (nomark _)) fun σ H Q hq => ?_⟩
    obtain ⟨env, m, g, hs, hm, hz⟩ := c1_ok (c1_bool hq)
    refine ⟨env, m, g, hs, hm, hz.mono fun v m1 g1 H1 e1 s1 z1 x rx => ⟨rfl, ?_⟩⟩
    obtain ⟨m2, g2, d, s2, r2, z2⟩ := z1 x rx
    rw [← none_iff r2]
    exact ans_d s2 z2 (.bl _)
  · cases h
theorem s_and {f : CkL} {ps : List P} (hf : SL C call f ps) (hn : ps ≠ []) : SE C call (kAnd f) ⟨cAnd ps, tAnd ps⟩ := by
  intro e sc fb X G h
  unfold kAnd at h
  split at h
  · rename_i xs q
    have ha := hf _ sc fb X G h
    have hne : xs ≠ [] := fun z => hn (List.length_eq_zero_iff.mp (by rw [← ha.len, z]; rfl))
    obtain ⟨h1, h2⟩ := ha.and hne
    exact ⟨h1, h2.pt⟩
  · cases h
theorem s_or {f : CkL} {ps : List P} (hf : SL C call f ps) (hn : ps ≠ []) : SE C call (kOr f) ⟨cOr ps, tOr ps⟩ := by
  intro e sc fb X G h
  unfold kOr at h
  split at h
  · rename_i xs q
    have ha := hf _ sc fb X G h
    have hne : xs ≠ [] := fun z => hn (List.length_eq_zero_iff.mp (by rw [← ha.len, z]; rfl))
    obtain ⟨h1, h2⟩ := ha.or hne
    exact ⟨h1, h2.pt⟩
  · cases h
theorem s_not {f : Ck} {pa : P} (ha : SE C call f pa) : SE C call (kNot f) ⟨fun env m => (pa.v env m).bind fun v m1 => (truR v m1).bind fun t m2 => boolR (!t) m2, fun env m => (pa.t env m).bind fun t m1 => .ok (!t) m1⟩ := by
  intro e sc fb X G h
  unfold kNot at h
  split at h
  · obtain ⟨h1, h2⟩ := ha _ sc fb X G h
    exact ⟨pe_notR h1, pt_notR h2⟩
  · cases h
theorem pt_iteR {X : Cx} {c a b : Expr} {pc pa pb : P} {pos : Pos} (hc : PT X c (tT X.K pc.t)) (ha : PT X a (tT X.K pa.t)) (hb : PT X b (tT X.K pb.t)) :
    PT X (.IfExp c a b pos) (tT X.K fun env m => (pc.t env m).bind fun t m1 => if t = true then pa.t env m1 else pb.t env m1) := by
  refine ⟨fun pins s σ H Q I ⟨env, m, g, hs, hm, hz⟩ => ?_⟩
  show wpAny _ _ (do if ← isTrue c X.env (eval c X.env) then isTrue a X.env (eval a X.env) else isTrue b X.env (eval b X.env)) _ _ _
  have hz' := Rz.bind hz
  refine wpAny_bind (thn (hc.run pins s σ H (fun t H1 => ∃ m1 g1, Sg X.K env σ g1 H1 ∧ SimM X.K m1 g1 H1 ∧ Rz X.K (if t = true then pa.t env m1 else pb.t env m1) g1 H1 fun b _ _ H' => Q b H') I ⟨env, m, g, hs, hm, hz'.mono fun t m1 g1 H1 e1 s1 z1 => ⟨m1, g1, hs.ext e1, s1, z1⟩⟩) fun t s1 ⟨H1, I1, m1, g1, hs1, hm1, z1⟩ => ?_)
  cases t with
  | true =>
    simp only [if_true] at z1 ⊢
    exact ha.run pins s1 σ H1 Q I1 ⟨env, m1, g1, hs1, hm1, z1⟩
  | false =>
    simp only [Bool.false_eq_true, if_false] at z1 ⊢
    exact hb.run pins s1 σ H1 Q I1 ⟨env, m1, g1, hs1, hm1, z1⟩
theorem s_ite {f g k : Ck} {pc pa pb : P} (hc : SE C call f pc) (ha : SE C call g pa) (hb : SE C call k pb) : SE C call (kIte f g k) ⟨fun env m => (pc.t env m).bind fun t m1 => if t = true then pa.v env m1 else pb.v env m1,
      fun env m => (pc.t env m).bind fun t m1 => if t = true then pa.t env m1 else pb.t env m1⟩ := by
  intro e sc fb X G h
  unfold kIte at h
  split at h
  · simp only [Bool.and_eq_true] at h
    obtain ⟨⟨h1, h2⟩, h3⟩ := h
    obtain ⟨c1, c2⟩ := hc _ sc fb X G h1
    obtain ⟨a1, a2⟩ := ha _ sc fb X G h2
    obtain ⟨b1, b2⟩ := hb _ sc fb X G h3
    exact ⟨pe_iteR c2 a1 b1, pt_iteR c2 a2 b2⟩
  · cases h
theorem s_idx {f g : Ck} {pa pb : P} (ha : SE C call f pa) (hb : SE C call g pb) : SE C call (kIdx f g) (ofV (c2 pa pb fun x y m => (optR (idx x y) m).bind fun z m1 => .ok (.d z) m1)) := by
  intro e sc fb X G h
  unfold kIdx at h
  split at h
  · simp only [Bool.and_eq_true] at h
    obtain ⟨⟨h1, h2⟩, h3⟩ := h
    exact both (pe_idxR (ha _ sc fb X G h2).1 (hb _ sc fb X G h3).1 h1) fun _ => rfl
  · cases h
theorem s_sl {f : Ck} {pa : P} (ha : SE C call f pa) : SE C call (kSl f) (ofV (c1 pa fun x m => optR (slc x none none) m)) := by
  intro e sc fb X G h
  unfold kSl at h
  split at h
  · exact both (pe_slR (ha _ sc fb X G h).1) fun _ => rfl
  · cases h
theorem s_slL {f g : Ck} {pa pb : P} (ha : SE C call f pa) (hb : SE C call g pb) : SE C call (kSlL f g) (ofV (c2 pa pb fun x l m => match l with
      | .int l => optR (slc x (some l) none) m
      | _ => .fail)) := by
  intro e sc fb X G h
  unfold kSlL at h
  split at h
  · obtain ⟨h1, h2⟩ := Bool.and_eq_true_iff.mp h
    exact both (pe_slLR (ha _ sc fb X G h1).1 (hb _ sc fb X G h2).1) fun _ => rfl
  · cases h
theorem s_slU {f g : Ck} {pa pb : P} (ha : SE C call f pa) (hb : SE C call g pb) : SE C call (kSlU f g) (ofV (c2 pa pb fun x h m => match h with
      | .int h => optR (slc x none (some h)) m
      | _ => .fail)) := by
  intro e sc fb X G h
  unfold kSlU at h
  split at h
  · obtain ⟨h1, h2⟩ := Bool.and_eq_true_iff.mp h
    exact both (pe_slUR (ha _ sc fb X G h1).1 (hb _ sc fb X G h2).1) fun _ => rfl
  · cases h
theorem s_slLU {f g k : Ck} {pa pb pc : P} (ha : SE C call f pa) (hb : SE C call g pb) (hc : SE C call k pc) : SE C call (kSlLU f g k) (ofV (cSl3 pa pb pc)) := by
  intro e sc fb X G h
  unfold kSlLU at h
  split at h
  · simp only [Bool.and_eq_true] at h
    obtain ⟨⟨h1, h2⟩, h3⟩ := h
    exact both (pe_slLUR (ha _ sc fb X G h1).1 (hb _ sc fb X G h2).1 (hc _ sc fb X G h3).1) fun _ => rfl
  · cases h
theorem s_rev {f : Ck} {pa : P} (ha : SE C call f pa) : SE C call (kRev f) (ofV (c1 pa fun x m => optR (revd x) m)) := by
  intro e sc fb X G h
  unfold kRev at h
  split at h
  · simp only [Bool.and_eq_true, decide_eq_true_eq] at h
    exact both (pe_revR h.1 (ha _ sc fb X G h.2).1) fun _ => rfl
  · cases h
theorem s_bi {f : CkL} {ps : List P} {n : Nat} (b : Bi) (hf : SL C call f ps) (hn : ps.length = n) : SE C call (kBi C b n f) (ofV (cBi b ps)) := by
  intro e sc fb X G h
  unfold kBi at h
  split at h
  · rename_i x q xs pos
    simp only [Bool.and_eq_true, decide_eq_true_eq] at h
    obtain ⟨⟨⟨⟨h1, h2⟩, h3⟩, h4⟩, h5⟩ := h
    obtain ⟨g1, g2, g3⟩ := blt_ok G h3
    obtain ⟨o1, o2, o3⟩ := okName_ok g3
    have ha := hf _ sc fb X G h4
    subst h2
    cases ha with
    | nil => exact absurd hn.symm h5
    | cons a c d t =>
      refine both ?_ fun _ => rfl
      have hp := (AllP.cons a c d t).args
      cases b with
      | len => exact pe_biB cr_len g1 g2 (by decide +kernel) o3 o1 hp d t.stars
      | abs => exact pe_biB cr_abs g1 g2 (by decide +kernel) o3 o1 hp d t.stars
      | int => exact pe_biT cr_int g1 g2 (by decide +kernel) o3 o1 hp d t.stars
      | list => exact pe_biT (cr_list' G.calm) g1 g2 (by decide +kernel) o3 o1 hp d t.stars
      | tuple => exact pe_biT (cr_tuple' G.calm) g1 g2 (by decide +kernel) o3 o1 hp d t.stars
      | sorted => exact pe_biB (cr_sorted' G.units) g1 g2 (by decide +kernel) o3 o1 hp d t.stars
      | sortedset => cases h1
      | lenset => cases h1
      | all => exact pe_biB (crAll G.calm) g1 g2 (by decide +kernel) o3 o1 hp d t.stars
      | any => exact pe_biB (crAny G.calm) g1 g2 (by decide +kernel) o3 o1 hp d t.stars
      | min2 => exact pe_biB (cr_min2 G.calm) g1 g2 (by decide +kernel) o3 o1 hp d t.stars
      | max2 => exact pe_biB (cr_max2 G.calm) g1 g2 (by decide +kernel) o3 o1 hp d t.stars
  · cases h
theorem s_set {f : CkL} {ps : List P} (hf : SL C call f ps) : SE C call (kSet C f) (ofV (cBi .sortedset ps)) := by
  intro e sc fb X G h
  unfold kSet at h
  split at h
  · simp only [Bool.and_eq_true, decide_eq_true_eq] at h
    obtain ⟨⟨⟨⟨h1, h2⟩, h3⟩, h4⟩, h5⟩ := h
    obtain ⟨g1, g2, g3⟩ := blt_ok G h2
    obtain ⟨k1, k2, k3⟩ := blt_ok G h4
    have ha := hf _ sc fb X G h5
    cases ha with
    | cons a c d t =>
      cases t
      exact both (pe_setR h1 g1 g2 g3 h3 k1 k2 k3 G.calm G.units a d) fun _ => rfl
  · cases h
theorem s_lenset {f : CkL} {ps : List P} (hf : SL C call f ps) : SE C call (kLenset C f) (ofV (cBi .lenset ps)) := by
  intro e sc fb X G h
  unfold kLenset at h
  split at h
  · simp only [Bool.and_eq_true, decide_eq_true_eq] at h
    obtain ⟨⟨⟨⟨h1, h2⟩, h3⟩, h4⟩, h5⟩ := h
    obtain ⟨g1, g2, g3⟩ := blt_ok G h2
    obtain ⟨k1, k2, k3⟩ := blt_ok G h4
    have ha := hf _ sc fb X G h5
    cases ha with
    | cons a c d t =>
      cases t
      exact both (pe_lensetR h1 g1 g2 h3 k1 k2 G.calm G.units a d) fun _ => rfl
  · cases h
abbrev SLS (C : Cs) (call : Call) (f : CkL) (bs : List Bool) (ps : List P) : Prop := ∀ (es : List Expr) (sc : Scope) (fb : Str → Bool) (X : Cx), Goo C call sc fb X → f sc fb es = true → PA X es (tIt X.K (cItemsS bs ps))
theorem s_tupS {f : CkL} {bs : List Bool} {ps : List P} (hf : SLS C call f bs ps) : SE C call (kTupS f) (ofV (cTupS bs ps)) := by
  intro e sc fb X G h
  unfold kTupS at h
  split at h
  · exact both (pe_tupS (hf _ sc fb X G h)) fun _ => rfl
  · cases h
theorem s_lstS {f : CkL} {bs : List Bool} {ps : List P} (hf : SLS C call f bs ps) : SE C call (kLstS f) (ofV (cLstS bs ps)) := by
  intro e sc fb X G h
  unfold kLstS at h
  split at h
  · exact both (pe_lstS (hf _ sc fb X G h)) fun _ => rfl
  · cases h
theorem s_dmk {f : Ck} {p : P} (hf : SE C call f p) : SE C call (kDmk C f) ⟨cDmk p, fun _ _ => .fail⟩ := by
  intro e sc fb X G h
  unfold kDmk at h
  split at h
  · simp only [Bool.and_eq_true, decide_eq_true_eq] at h
    obtain ⟨⟨⟨h1, h2⟩, h3⟩, h4⟩ := h
    obtain ⟨g1, g2, g3⟩ := blt_ok G h2
    subst h1
    exact ⟨pe_dmkR G.calm g1 g2 (hf _ sc fb X G h4).1 h3, ⟨fun pins s σ H Q I ⟨env, m, g, hs, hm, hz⟩ => hz.elim⟩⟩
  · cases h
theorem two_few {y z : Expr} {cpos : Pos} (n1 : notStar y = true) (n2 : notStar z = true) (env : PySem.Env) : backTo cpos (starEach [y, z] env) = [(false, eval y env), (false, eval z env)] := by
  rw [star1 n1, star1 n2]
  rfl
theorem s_dget {f g h : Ck} {pd pk px : P} (hf : SE C call f pd) (hg : SE C call g pk) (hh : SE C call h px) : SE C call (kDget f g h) (ofV (cDget pd pk px)) := by
  intro e sc fb X G h
  unfold kDget at h
  split at h
  · simp only [Bool.and_eq_true, decide_eq_true_eq] at h
    obtain ⟨⟨⟨⟨⟨⟨h1, h2⟩, h3⟩, h4⟩, h5⟩, h6⟩, h7⟩ := h
    subst h1
    have hu := G.units
    refine both (pe_dgetR (by omega) (hf _ sc fb X G h5).1 (hg _ sc fb X G h6).1 (hh _ sc fb X G h7).1 ⟨rfl, ?_, h4, two_few h2 h3 _⟩) fun _ => rfl
    rw [two_few h2 h3]
    rfl
  · cases h
theorem noSl_of {y : Expr} (h : notSlice y = true) : NoSl y := fun o i => by
  cases y <;> first | rfl | (cases h; done)
theorem din_shape {neg : Bool} {pk pd : P} {env : Env} {m m' : Mem} {w : Val} (h : cDin neg pk pd env m = .ok w m') : ∃ b, w = .d (.bool b) := by
  unfold cDin at h
  cases h1 : pk.v env m with
  | fail => rw [h1] at h; cases h
  | exc _ _ => rw [h1] at h; cases h
  | ok vk m1 =>
    rw [h1, Res.bind_ok] at h
    cases h2 : pd.v env m1 with
    | fail => rw [h2] at h; cases h
    | exc _ _ => rw [h2] at h; cases h
    | ok vd m2 =>
      rw [h2, Res.bind_ok] at h
      cases h3 : rd m2 vk.nf with
      | none => rw [show rdR m2 vk.nf = .fail by unfold rdR; rw [h3]; rfl] at h; cases h
      | some y =>
        rw [show rdR m2 vk.nf = .ok y m2 by unfold rdR; rw [h3]; rfl, Res.bind_ok] at h
        unfold keyR at h
        split at h
        · rw [Res.bind_ok] at h
          cases vd with
          | dv kvs =>
            cases h
            exact ⟨_, rfl⟩
          | d _ => cases h
          | fr _ => cases h
          | mr _ => cases h
        · cases h
theorem din_test {K : PySem.W.Frag} {neg : Bool} {pk pd : P} {σ : L2.St} {H : Hp} {Q : Bool → Hp → Prop} (h : tT K (ofV (cDin neg pk pd)).t σ H Q) : tE K (cDin neg pk pd) σ H fun x H1 => ∃ c, x = .bl c ∧ Q c H1 := by
  obtain ⟨env, m, g, hs, hm, hz⟩ := h
  refine ⟨env, m, g, hs, hm, ?_⟩
  have hz : Rz K ((cDin neg pk pd env m).bind truR) g H _ := hz
  cases hv : cDin neg pk pd env m with
  | fail => rw [hv] at hz; exact hz.elim
  | exc a b => rw [hv] at hz; exact hz.elim
  | ok w m1 =>
    obtain ⟨b, rfl⟩ := din_shape hv
    rw [hv] at hz
    intro g1 H1 e1 s1 x rx
    cases rx
    exact ⟨b, rfl, hz g1 H1 e1 s1⟩
theorem s_dat {f g : Ck} {pd pk : P} (hf : SE C call f pd) (hg : SE C call g pk) : SE C call (kDat f g) (ofV (cDat pd pk)) := by
  intro e sc fb X G h
  unfold kDat at h
  split at h
  · simp only [Bool.and_eq_true] at h
    obtain ⟨⟨h1, h2⟩, h3⟩ := h
    have hu := G.units
    exact both (pe_datR (by omega) (hf _ sc fb X G h2).1 (hg _ sc fb X G h3).1 (noSl_of h1)) fun _ => rfl
  · cases h
theorem s_din {f g : Ck} {pk pd : P} (neg : Bool) (hf : SE C call f pk) (hg : SE C call g pd) : SE C call (kDin neg f g) (ofV (cDin neg pk pd)) := by
  intro e sc fb X G h
  unfold kDin at h
  split at h
  · simp only [Bool.and_eq_true, Bool.not_eq_true'] at h
    obtain ⟨⟨⟨h1, h2⟩, h3⟩, h4⟩ := h
    have hu := G.units
    split at h1
    · refine ⟨pe_dinR (by omega) (hf _ sc fb X G h3).1 (hg _ sc fb X G h4).1 h2, PT.weak (pt_cmp (pc_din (by omega) (hf _ sc fb X G h3).1 (hg _ sc fb X G h4).1) h2) fun σ H Q z => ?_⟩
      have q := din_ok (X := X) (din_test z)
      simp only [Bool.false_xor] at q
      exact q
    · refine ⟨pe_dnotinR (by omega) (hf _ sc fb X G h3).1 (hg _ sc fb X G h4).1 h2, PT.weak (pt_cmp (pc_dnotin (by omega) (hf _ sc fb X G h3).1 (hg _ sc fb X G h4).1) h2) fun σ H Q z => ?_⟩
      have q := din_ok (X := X) (din_test z)
      simp only [Bool.true_xor] at q
      exact q
    · cases h1
  · cases h
theorem s_lidx {f : Ck} {pa : P} (i : Nat) (ha : SE C call f pa) : SE C call (kLidx C i f) (ofV (cLidx i pa)) := by
  intro e sc fb X G h
  unfold kLidx at h
  split at h
  · simp only [Bool.and_eq_true, decide_eq_true_eq] at h
    obtain ⟨⟨⟨⟨⟨⟨h1, h2⟩, h3⟩, h4⟩, h5⟩, h6⟩, h7⟩ := h
    obtain ⟨o1, o2, o3⟩ := okName_ok h3
    subst h4
    exact both (pe_lidxR G.units (by rw [G.N]; exact h1) (vis_ok G h2) o1 o2 (ha _ sc fb X G h7).1 h5 h6) fun _ => rfl
  · cases h
theorem cls_ok {X : Cx} {sc : Scope} {fb : Str → Bool} (G : Goo C call sc fb X) {c : Cls} {e : Expr} (h : clsB C sc c e = true) : ∃ y q, e = .Name y q ∧ y = clsN c ∧ Gl X y ∧ X.mg y = none ∧ okName y = true := by
  unfold clsB at h
  split at h
  · rename_i y q
    simp only [Bool.and_eq_true, decide_eq_true_eq] at h
    obtain ⟨g1, g2, g3⟩ := blt_ok G h.2
    exact ⟨y, q, rfl, h.1, g1, g2, g3⟩
  · cases h
theorem clss_ok {X : Cx} {sc : Scope} {fb : Str → Bool} (G : Goo C call sc fb X) : ∀ {cs : List Cls} {es : List Expr}, clssB C sc cs es = true → ClsE X cs es
  | [], [], _ => .nil
  | [], _ :: _, h => by simp [clssB] at h
  | _ :: _, [], h => by simp [clssB] at h
  | c :: cs, e :: es, h => by
    simp only [clssB, Bool.and_eq_true] at h
    obtain ⟨y, q, rfl, a, b, d, k⟩ := cls_ok G h.1
    exact .cons a b d k (clss_ok G h.2)
theorem s_isi {f : Ck} {pa : P} (cs : List Cls) (ha : SE C call f pa) : SE C call (kIsi C cs f) (ofV (c1 pa fun x m => boolR (cs.any (isi x)) m)) := by
  intro e sc fb X G h
  unfold kIsi at h
  split at h
  · simp only [Bool.and_eq_true, decide_eq_true_eq] at h
    obtain ⟨⟨⟨⟨h1, h2⟩, h3⟩, h4⟩, h5⟩ := h
    obtain ⟨g1, g2, g3⟩ := blt_ok G h2
    have hE := (ha _ sc fb X G h4).1
    split at h5
    · obtain ⟨y, q, rfl, a, b, d, k⟩ := cls_ok G h5
      exact both (pe_isi1R h1 g1 g2 g3 hE h3 a b d k) fun _ => rfl
    · split at h5
      · simp only [Bool.and_eq_true, decide_eq_true_eq] at h5
        exact both (pe_isiTR h1 g1 g2 g3 hE h3 (clss_ok G h5.1) h5.2) fun _ => rfl
      · cases h5
  · cases h
theorem s_pop {f : Ck} {pa : P} (i : Nat) (ha : SE C call f pa) : SE C call (kPop C i f) (ofV (cPop i pa)) := by
  intro e sc fb X G h
  unfold kPop at h
  split at h
  · simp only [Bool.and_eq_true, decide_eq_true_eq] at h
    obtain ⟨⟨⟨⟨⟨⟨h1, h2⟩, h3⟩, h4⟩, h5⟩, h6⟩, h7⟩ := h
    obtain ⟨o1, o2, o3⟩ := okName_ok h3
    subst h4
    exact both (pe_popR (by rw [G.N]; exact h1) (vis_ok G h2) o1 o2 (ha _ sc fb X G h7).1 h5 h6) fun _ => rfl
  · cases h
theorem src_ok {X : Cx} {sc : Scope} {fb : Str → Bool} (G : Goo C call sc fb X) {tg iter : Expr} {k : Sk} {xs : List Expr} {ps : List P} (h : srcE C sc tg k iter = some xs) (ha : AllP X xs ps) : PI X tg iter (iS X.K (srcR k ps)) := by
  unfold srcE at h
  split at h
  · cases h
    cases ha with
    | cons a b c d => cases d; exact pi_seqR a
  · split at h
    · split at h
      · rename_i hb
        cases h
        simp only [Bool.and_eq_true, decide_eq_true_eq] at hb
        obtain ⟨rfl, hb⟩ := hb
        obtain ⟨g1, g2, g3⟩ := blt_ok G hb
        cases ha with
        | cons a b c d => cases d; exact pi_rangeR g1 g2 a c
      · cases h
    · cases h
  · split at h
    · split at h
      · rename_i hb
        cases h
        simp only [Bool.and_eq_true, decide_eq_true_eq] at hb
        obtain ⟨⟨rfl, hb⟩, ht⟩ := hb
        obtain ⟨g1, g2, g3⟩ := blt_ok G hb
        unfold isTupE at ht
        split at ht
        · cases ha with
          | cons a b c d =>
            cases d with
            | cons a' b' c' d' => cases d'; exact pi_zipR g1 g2 a a' c c'
        · cases ht
      · cases h
    · cases h
  · split at h
    · split at h
      · rename_i hb
        cases h
        simp only [Bool.and_eq_true, decide_eq_true_eq] at hb
        obtain ⟨⟨rfl, hb⟩, ht⟩ := hb
        obtain ⟨g1, g2, g3⟩ := blt_ok G hb
        unfold isTupE at ht
        split at ht
        · cases ha with
          | cons a b c d => cases d; exact pi_enumR g1 g2 a c
        · cases ht
      · cases h
    · cases h
  · cases h
theorem tests_ok {X : Cx} : ∀ {es : List Expr} {ps : List P}, AllP X es ps → es.length ≤ 1 → PTs X es (tT X.K (tAll ps))
  | _, _, .nil, _ => pts_nilR
  | _, _, .cons a b c .nil, _ => pts_oneR b
  | _, _, .cons a b c (.cons _ _ _ _), h => by simp at h
/-- what a comprehension's check tells -/
theorem lc_facts {X : Cx} {sc : Scope} {fb : Str → Bool} (G : Goo C call sc fb X) {own : List Nat} {t : Tg} {k : Sk} {f g : CkL} {hh : Ck} {src tests : List P} {elt : P} (hf : SL C call f src) (hg : SL C call g tests) (he : SE C call hh elt) {el tg iter : Expr} {ifs : List Expr} {asy : Int} {scope : Scope} {pos : Pos}
    (h : kLc C own t k f g hh sc fb (.ListComp el [⟨tg, iter, ifs, asy⟩] scope pos) = true) :
    asy = 0 ∧ PI X tg iter (iS X.K (srcR k src)) ∧ BlkOk X.N X.env.scope scope (own.map fun i => (C.N.getD i "", i)) ∧ notSet iter = true ∧ (∀ i ∈ slots t, i ∈ (own.map fun i => (C.N.getD i "", i)).map (·.2)) ∧ (own.map fun i => (C.N.getD i "", i)).map (·.2) = own ∧
    (∀ (s : Shared) (H : Hp) (a : Addr) (cl : List (Str × Addr)) (fp : List Addr), PG (X.blk s H scope (compEnvC scope cl a X.env) fp) tg (gT X.K t) ∧ PTs (X.blk s H scope (compEnvC scope cl a X.env) fp) ifs (tT X.K (tAll tests)) ∧ PE (X.blk s H scope (compEnvC scope cl a X.env) fp) el (tE X.K elt.v)) := by
  unfold kLc at h
  simp only [Bool.and_eq_true, decide_eq_true_eq] at h
  obtain ⟨⟨⟨⟨⟨⟨⟨⟨h0, h1⟩, h2⟩, h3⟩, h4⟩, h5⟩, h6⟩, h7⟩, h8⟩ := h
  have hmap : (own.map fun i => (C.N.getD i "", i)).map (·.2) = own := by
    rw [List.map_map]
    exact List.map_id _
  have hb : BlkOk C.N sc scope (own.map fun i => (C.N.getD i "", i)) := blkOk_by h4
  refine ⟨h0, ?_, ?_, h2, ?_, hmap, ?_⟩
  · split at h1
    · rename_i xs hx
      exact src_ok G hx (hf _ sc fb X G h1)
    · cases h1
  · rw [G.N, G.hsc]; exact hb
  · rw [hmap]
    intro i hi
    exact of_decide_eq_true (List.all_eq_true.mp h5 i hi)
  · intro s H a cl fp
    have G' := G.blk hb.kind s H a cl fp
    exact ⟨soundT G' t tg h6, tests_ok (hg _ _ _ _ G' h7) h3, (he _ _ _ _ G' h8).1⟩
theorem s_lc {f g : CkL} {hh : Ck} {src tests : List P} {elt : P} (own : List Nat) (t : Tg) (k : Sk) (hf : SL C call f src) (hg : SL C call g tests) (he : SE C call hh elt) : SE C call (kLc C own t k f g hh) (ofV (cLc own t k src tests elt)) := by
  intro e sc fb X G h
  have h' := h
  unfold kLc at h'
  split at h'
  · rename_i el tg iter ifs asy scope pos
    obtain ⟨h0, h1, h2, h3, h4, h5, h6⟩ := lc_facts G hf hg he h
    subst h0
    have q := pe_lcR (pos := pos) G.calm (by rw [G.N]; exact G.nd) h1 h2 (fun s H a cl fp => (h6 s H a cl fp).1) (fun s H a cl fp => (h6 s H a cl fp).2.1) (fun s H a cl fp => (h6 s H a cl fp).2.2) h3 h4
    rw [h5] at q
    exact both q fun _ => rfl
  · cases h'
theorem s_dc {f g : CkL} {hk hv : Ck} {src tests : List P} {ke ve : P} (own : List Nat) (t : Tg) (k : Sk) (hf : SL C call f src) (hg : SL C call g tests) (h1 : SE C call hk ke) (h2 : SE C call hv ve) : SE C call (kDc C own t k f g hk hv) ⟨cDc own t k src tests ke ve, fun _ _ => .fail⟩ := by
  intro e sc fb X G h
  unfold kDc at h
  split at h
  · rename_i kx vx tg iter ifs asy scope pos
    simp only [Bool.and_eq_true, decide_eq_true_eq] at h
    obtain ⟨⟨⟨⟨⟨⟨⟨⟨⟨a0, a1⟩, a2⟩, a3⟩, a4⟩, a5⟩, a6⟩, a7⟩, a8⟩, a9⟩ := h
    subst a0
    have hmap : (own.map fun i => (C.N.getD i "", i)).map (·.2) = own := by
      rw [List.map_map]
      exact List.map_id _
    have hb : BlkOk C.N sc scope (own.map fun i => (C.N.getD i "", i)) := blkOk_by a4
    have hi : PI X tg iter (iS X.K (srcR k src)) := by
      split at a1
      · rename_i xs hx
        exact src_ok G hx (hf _ sc fb X G a1)
      · cases a1
    have q := pe_dc (kx := kx) (vx := vx) (ifs := ifs) (g := gT X.K t) (tt := tT X.K (tAll tests)) (tk := tE X.K ke.v) (tv := tE X.K ve.v) (pos := pos) G.calm (by rw [G.N]; exact G.nd) hi (show BlkOk X.N X.env.scope scope (own.map fun i => (C.N.getD i "", i)) by rw [G.N, G.hsc]; exact hb) (fun s H a cl fp => soundT (G.blk hb.kind s H a cl fp) t tg a6) (fun s H a cl fp => tests_ok (hg _ _ _ _ (G.blk hb.kind s H a cl fp) a7) a3)
      (fun s H a cl fp => (h1 _ _ _ _ (G.blk hb.kind s H a cl fp) a8).1) (fun s H a cl fp => (h2 _ _ _ _ (G.blk hb.kind s H a cl fp) a9).1) (not_folded a2 _)
    rw [hmap] at q
    refine ⟨PE.weak q fun _ _ _ z => dc_ok (fun i hi => of_decide_eq_true (List.all_eq_true.mp a5 i hi)) z, ⟨fun pins s σ H Q I ⟨env, m, g, hs, hm, hz⟩ => hz.elim⟩⟩
  · cases h
theorem s_lc2 {f g f1 g1 : CkL} {hh : Ck} {src tests src1 tests1 : List P} {elt : P} (own own1 : List Nat) (t : Tg) (k : Sk) (t1 : Tg) (k1 : Sk) (hf : SL C call f src) (hg : SL C call g tests) (hf1 : SL C call f1 src1) (hg1 : SL C call g1 tests1) (he : SE C call hh elt) :
    SE C call (kLc2 C own own1 t k f g t1 k1 f1 g1 hh) (ofV (cLc2 own own1 t k src tests t1 k1 src1 tests1 elt)) := by
  intro e sc fb X G h
  unfold kLc2 at h
  split at h
  · rename_i el tg iter ifs asy tg1 iter1 ifs1 asy1 scope pos
    simp only [Bool.and_eq_true, decide_eq_true_eq] at h
    obtain ⟨⟨⟨⟨⟨⟨⟨⟨⟨⟨⟨⟨⟨⟨⟨⟨a0, b0⟩, a1⟩, a2⟩, b2⟩, a3⟩, b3⟩, a4⟩, a5⟩, b5⟩, c5⟩, a6⟩, a7⟩, b1⟩, b6⟩, b7⟩, a8⟩ := h
    subst a0 b0
    have hmap : (own.map fun i => (C.N.getD i "", i)).map (·.2) = own := by
      rw [List.map_map]
      exact List.map_id _
    have hb : BlkOk C.N sc scope (own.map fun i => (C.N.getD i "", i)) := blkOk_by a4
    have hi : PI X tg iter (iS X.K (srcR k src)) := by
      split at a1
      · rename_i xs hx
        exact src_ok G hx (hf _ sc fb X G a1)
      · cases a1
    have hi1 : ∀ (s : Shared) (H : Hp) (a : Addr) (cl : List (Str × Addr)) (fp : List Addr), PI (X.blk s H scope (compEnvC scope cl a X.env) fp) tg1 iter1 (iS X.K (srcR k1 src1)) := fun s H a cl fp => by
      have G' := G.blk hb.kind s H a cl fp
      split at b1
      · rename_i xs hx
        exact src_ok G' hx (hf1 _ _ _ _ G' b1)
      · cases b1
    have q := pe_lc2R (pos := pos) (own := own.map fun i => (C.N.getD i "", i)) (own1 := own1) (t := t) (t1 := t1) G.calm (by rw [G.N]; exact G.nd) hi (by rw [G.N, G.hsc]; exact hb) (by rw [hmap]; exact fun i hi => of_decide_eq_true (List.all_eq_true.mp c5 i hi))
      (fun s H a cl fp => soundT (G.blk hb.kind s H a cl fp) t tg a6) (fun s H a cl fp => tests_ok (hg _ _ _ _ (G.blk hb.kind s H a cl fp) a7) a3) hi1
      (fun s H a cl fp => soundT (G.blk hb.kind s H a cl fp) t1 tg1 b6) (fun s H a cl fp => tests_ok (hg1 _ _ _ _ (G.blk hb.kind s H a cl fp) b7) b3)
      (fun s H a cl fp => (he _ _ _ _ (G.blk hb.kind s H a cl fp) a8).1) a2 b2 (by rw [hmap]; exact fun i hi => of_decide_eq_true (List.all_eq_true.mp a5 i hi)) (fun i hi => of_decide_eq_true (List.all_eq_true.mp b5 i hi))
    rw [hmap] at q
    exact both q fun _ => rfl
  · cases h
theorem sems_len (es : List E) : (sems call es).length = es.length := by
  induction es with
  | nil => rfl
  | cons e es ih => simp [sems, ih]
theorem sems_ne {es : List E} (h : es ≠ []) : sems call es ≠ [] := by
  cases es with
  | nil => exact absurd rfl h
  | cons e es => simp [sems]
mutual
theorem soundE : ∀ e : E, SE C call (chkE C e) (sem call e)
  | .bad => fun e sc fb X G h => ⟨pe_badR e, ⟨fun pins s σ H Q I ⟨env, m, g, hs, hm, hz⟩ => hz.elim⟩⟩
  | .var i => s_var i
  | .cst c => s_cst c
  | .glo c => s_glo c
  | .tup es => s_tup (soundL es) (sems_len es)
  | .lst es => s_lst (soundL es) (sems_len es)
  | .call f es => s_call (soundL es) (sems_len es)
  | .callc f es => s_callc (soundL es) (sems_len es)
  | .callk f is es => s_callk (soundL es) (sems_len es)
  | .cell e => fun ex sc fb X G h => by
    have q := soundE e ex sc fb X G h
    exact ⟨pe_cellR q.1, ⟨fun pins s σ H Q I ⟨env, m, g, hs, hm, hz⟩ => hz.elim⟩⟩
  | .op o a b => s_op o (soundE a) (soundE b)
  | .neg a => s_neg (soundE a)
  | .cmp o a b => s_cmp o (soundE a) (soundE b)
  | .chain o o' a b c => s_chain o o' (soundE a) (soundE b) (soundE c)
  | .isN a => s_isN (soundE a)
  | .isnN a => s_isnN (soundE a)
  | .band [] => fun e sc fb X G h => ⟨⟨fun pins s σ H Q I ⟨env, m, g, hs, hm, hz⟩ => hz.elim⟩, ⟨fun pins s σ H Q I ⟨env, m, g, hs, hm, hz⟩ => hz.elim⟩⟩
  | .band (e :: es) => s_and (soundL (e :: es)) (sems_ne (by simp))
  | .bor [] => fun e sc fb X G h => ⟨⟨fun pins s σ H Q I ⟨env, m, g, hs, hm, hz⟩ => hz.elim⟩, ⟨fun pins s σ H Q I ⟨env, m, g, hs, hm, hz⟩ => hz.elim⟩⟩
  | .bor (e :: es) => s_or (soundL (e :: es)) (sems_ne (by simp))
  | .not a => s_not (soundE a)
  | .ite c a b => s_ite (soundE c) (soundE a) (soundE b)
  | .idx a i => s_idx (soundE a) (soundE i)
  | .sl a => s_sl (soundE a)
  | .slL a l => s_slL (soundE a) (soundE l)
  | .slU a h => s_slU (soundE a) (soundE h)
  | .slLU a l h => s_slLU (soundE a) (soundE l) (soundE h)
  | .rev a => s_rev (soundE a)
  | .bi b es => by
    cases b with
    | sortedset => exact s_set (soundL es)
    | lenset => exact s_lenset (soundL es)
    | len => exact s_bi .len (soundL es) (sems_len es)
    | abs => exact s_bi .abs (soundL es) (sems_len es)
    | int => exact s_bi .int (soundL es) (sems_len es)
    | list => exact s_bi .list (soundL es) (sems_len es)
    | tuple => exact s_bi .tuple (soundL es) (sems_len es)
    | sorted => exact s_bi .sorted (soundL es) (sems_len es)
    | all => exact s_bi .all (soundL es) (sems_len es)
    | any => exact s_bi .any (soundL es) (sems_len es)
    | min2 => exact s_bi .min2 (soundL es) (sems_len es)
    | max2 => exact s_bi .max2 (soundL es) (sems_len es)
  | .isi a cs => s_isi cs (soundE a)
  | .pop i e => s_pop i (soundE e)
  | .lc own t k src tests elt => s_lc own t k (soundL src) (soundL tests) (soundE elt)
  | .lc2 own own1 t k src tests t1 k1 src1 tests1 elt => s_lc2 own own1 t k t1 k1 (soundL src) (soundL tests) (soundL src1) (soundL tests1) (soundE elt)
  | .tupS bs es => s_tupS (soundLS bs es)
  | .lstS bs es => s_lstS (soundLS bs es)
  | .dc own t k src tests ke ve => s_dc own t k (soundL src) (soundL tests) (soundE ke) (soundE ve)
  | .dmk e => s_dmk (soundE e)
  | .dget d k x => s_dget (soundE d) (soundE k) (soundE x)
  | .dat d k => s_dat (soundE d) (soundE k)
  | .din neg k d => s_din neg (soundE k) (soundE d)
  | .lidx i e => s_lidx i (soundE e)
theorem soundL : ∀ es : List E, SL C call (chkL C es) (sems call es)
  | [] => fun xs sc fb X G h => by
    cases xs with
    | nil => exact .nil
    | cons _ _ => cases h
  | e :: es => fun xs sc fb X G h => by
    cases xs with
    | nil => cases h
    | cons x xs =>
      have h' : (notStar x && chkE C e sc fb x && chkL C es sc fb xs) = true := h
      simp only [Bool.and_eq_true] at h'
      obtain ⟨⟨h1, h2⟩, h3⟩ := h'
      obtain ⟨a, b⟩ := soundE e x sc fb X G h2
      exact .cons a b h1 (soundL es xs sc fb X G h3)
theorem soundLS : ∀ (bs : List Bool) (es : List E), SLS C call (chkLS C bs es) bs (sems call es)
  | [], [] => fun xs sc fb X G h => by
    cases xs with
    | nil => exact pa_sN
    | cons _ _ => cases h
  | [], _ :: _ => fun xs sc fb X G h => by cases h
  | _ :: _, [] => fun xs sc fb X G h => by
    simp [chkLS] at h
  | false :: bs, e :: es => fun xs sc fb X G h => by
    cases xs with
    | nil => cases h
    | cons x xs =>
      have h' : (notStar x && chkE C e sc fb x && chkLS C bs es sc fb xs) = true := h
      simp only [Bool.and_eq_true] at h'
      exact pa_sF (soundE e x sc fb X G h'.1.2).1 (soundLS bs es xs sc fb X G h'.2) h'.1.1
  | true :: bs, e :: es => fun xs sc fb X G h => by
    cases xs with
    | nil => cases h
    | cons x xs =>
      cases x with
      | Starred y q =>
        have h' : (chkE C e sc fb y && chkLS C bs es sc fb xs) = true := h
        simp only [Bool.and_eq_true] at h'
        exact pa_sT (soundE e y sc fb X G h'.1).1 (soundLS bs es xs sc fb X G h'.2)
      | _ => cases h
end
end
end Ra


set_option Elab.async false
set_option linter.all false
set_option autoImplicit false
set_option maxRecDepth 100000
/-! several clauses, each `except X as n` -/
namespace Ra
open PySem PySem.Spec PyProof.Rows L2
/-- where a clause ends, its name goes -/
def endsA (i : Nat) (D : Ends) : Ends := { nx := fun σ' H' => D.nx (σ'.set i none) H', rt := D.rt, bk := fun σ' H' => D.bk (σ'.set i none) H', ct := fun σ' H' => D.ct (σ'.set i none) H' }
abbrev Cl := Value × Nat × (Addr → Value → Option Addr → TS)
def wAsN (K : PySem.W.Frag) (Wout : WX) (D : Ends) : List Cl → WX
  | [] => Wout
  | (c, i, ts) :: r => fun cls d σ H => ∃ b, PySem.W.exmOne K cls c = some b ∧ (b = true → ∀ a, H a = none → ts a cls d (endsA i D) (σ.set i (some (.ref a))) H) ∧ (b = false → wAsN K Wout D r cls d σ H)
inductive HdsA (X : Cx) : List ExceptHandler → List Cl → Prop
  | nil : HdsA X [] []
  | cons {x n : Str} {c : Value} {i : Nat} {ts : Addr → Value → Option Addr → TS} {b₀ : Stmt} {suite : List Stmt} {np pos' : Pos} {hds : List ExceptHandler} {l : List Cl} (hi : X.N[i]? = some n) (hln : X.env.kindOf n = some .local) (hc : Names X x c)
      (hsu : ∀ (a : Addr) (oe : Obj) (cls : Value) (d : Option Addr) (pn : List (Addr × Obj)), Zc cls d oe → (∃ vs, oe.data = .fields vs) → PSs (X.suite a ((a, oe) :: pn)) (b₀ :: suite) (ts a cls d)) (r : HdsA X hds l) :
      HdsA X (.ExceptHandler (some (.Name x np)) (some n) (b₀ :: suite) pos' :: hds) ((c, i, ts) :: l)
section
variable {X : Cx} {body : List Stmt} {h₀ : ExceptHandler} {hds : List ExceptHandler} {l : List Cl} {pos : Pos} {tb : WX → TS} {Wout : WX}
theorem ps_try_asN (hs : X.stack = X.env :: X.outer) (hf : X.env.frame = some X.env.locals) (hN : X.N.Nodup) (tk : Takes X Wout)
    (hb : ∀ (W : WX) (pn : List (Addr × Obj)) (xe : Value → Shared → Prop), Takes (X.tr pn xe) W → PassesOwn (model X.prog X.w) X.A X.env xe → PSs (X.tr pn xe) body (tb W))
    (hh : HdsA X (h₀ :: hds) l) : PS X (.Try body (h₀ :: hds) [] [] pos) (fun D σ H => tb (wAsN X.K Wout D l) D σ H) := by
  refine ⟨fun pins s σ H D I h => ?_⟩
  have ok := I.ok
  have hfr : X.A.frames = some (X.env :: X.outer) := by rw [ok.frames, hs]
  refine wpAny_Try_except ?_
  refine wpAny_mono ((hb (wAsN X.K Wout D l) (X.pn ++ pins) (fun e s₁ => wpAny (model X.prog X.w) X.A (noteFrame e X.env) (fun _ s₂ => wpAny (model X.prog X.w) X.A (setFlight e none) (fun _ s₃ =>
    wpAny (model X.prog X.w) X.A (handleBy e X.env (h₀ :: hds)) (SP X pins D) X.xe s₃) X.xe s₂) X.xe s₁) (fun u s' xx => ?_) PassesOwn.looking).run [] s σ H D (I.toTry _) h) (fun f s1 hsp => ?_) (fun e s1 he => he)
  · obtain ⟨a, B, sI, pins', σ', H', cls, d, rfl, J', nb, up, sky, na, os, ag, w⟩ := xx
    have J : Inv X pins σ' H' sI := J'.ofTry ok
    have sky' : Sky B (X.env :: X.outer) a (Zc cls d) X.env.locals s'.heap := by rw [← hs]; exact sky
    show wpAny (model X.prog X.w) X.A (noteFrame (.ref a) X.env) _ _ _
    refine Sky.land Zc.steady hfr hf sky' fun h3 fl3 up3 => ?_
    have J3 : Inv X pins σ' H' { s' with heap := h3 } := J.landed nb fl3.1 (up.trans up3) os ag
    obtain ⟨oe3, vs3, he3, hz3, hd3⟩ := fl3.there
    have notFr : ∀ {h : Heap} {o : Obj} {vs : Array Value}, h.FunFrames B (X.env :: X.outer) → h.get? a = some o → o.data = .fields vs → a ∉ frs (X.env :: X.outer) := fun {h o vs} ff e dd hm => by
      obtain ⟨_, o', e', hnf⟩ := ff.mem hm
      rw [e] at e'; cases e'
      exact hnf _ dd
    have nfr := notFr fl3.2.2.1 he3 hd3
    have nL : a ≠ X.env.locals := fun z => nfr (List.mem_filterMap.mpr ⟨X.env, List.mem_cons_self, by rw [hf, z]⟩)
    have nF : a ∉ X.fs := fun hm => by
      obtain ⟨e, he, q⟩ := List.mem_filterMap.mp hm
      exact nfr (List.mem_filterMap.mpr ⟨e, List.mem_cons_of_mem _ he, q⟩)
    have S3 := J3.suite he3 hd3 na nL nF
    have go : ∀ {hds' : List ExceptHandler} {l' : List Cl}, HdsA X hds' l' → wAsN X.K Wout D l' cls d σ' H' →
        wpAny (model X.prog X.w) X.A (handleBy (.ref a) X.env hds') (SP X pins D) X.xe { s' with heap := h3 } := by
      intro hds' l' hk
      induction hk with
      | nil =>
        intro w
        refine wpAny_handleBy_nil ?_
        obtain ⟨k1, k2, k3, oe, vs, T, oT, ts', he, hz, hd, h1, hr⟩ := id fl3
        unfold PySem.passOn
        refine wpAny_bind (wpAny_field he hd h1 ?_)
        rw [if_neg (show ¬ ((Value.ref T == Value.none) = true) from by simp)]
        have fin : wpAny (model X.prog X.w) X.A (setFlight (.ref a) X.env.frame) (fun _ s4 => wpAny (model X.prog X.w) X.A (throw (.ref a) : Sem PySem.Flow) (SP X pins D) X.xe s4) X.xe { s' with heap := h3 } := by
          rw [hf]
          refine HandSPX.setFlight_upZ fl3 fun h4 hh4 up4 => wpAny_throw (tk _ _ ?_)
          exact ⟨a, B, sI, pins, σ', H', cls, d, rfl, J, nb, (up.trans up3).trans up4, .inr (.inr (by rw [hs]; exact hh4)), na, os, ag, w⟩
        first
          | exact wpAny_bind (wpAny_pure (wpAny_bind fin))
          | exact wpAny_bind fin
      | @cons x n c i ts b₀ suite np pos' hds2 l2 hi hln hc hsu r ih =>
        intro w
        obtain ⟨b, hb1, hyes, hno⟩ := w
        have hloc : Loc X.env.scope n := .inl hln
        refine wpAny_handleBy_cons (codeAny_handlers_test ?_) (by intro q; cases q)
        have LT : PySem.W.Looks (model X.prog X.w) h3 (typeOf (.ref a)) cls := fun A Q E s k q => wpAny_typeOf_ref (k _ _ he3) (by rw [hz3.1]; exact q)
        have LM := PySem.W.exm_one (M := model X.prog X.w) (J3.kIn) LT hb1
        have test : ∀ {Q : Value → Shared → Prop} {E : Value → Shared → Prop}, Q c { s' with heap := h3 } → wpAny (model X.prog X.w) (X.A.mark (some (.ref a))) (eval (.Name x np) X.env) Q E { s' with heap := h3 } := fun {Q E} q => by
          obtain ⟨hg, hdbg, hm | ⟨hm, hv, hnn⟩⟩ := hc
          · exact ld_glob (X := X.suite a ((a, oe3) :: (X.pn ++ pins))) S3 hg hm q hdbg
          · exact ld_blt (X := X.suite a ((a, oe3) :: (X.pn ++ pins))) S3 hg hm hv q hnn hdbg
        refine test (LM.here ?_)
        cases b with
        | true =>
          refine codeAny_handlers_suite_as ?_
          refine HandSPX.lands_againZ fl3 fun h4 fl4 up4 => ?_
          have J4 : Inv X pins σ' H' { s' with heap := h4 } := J.landed nb fl4.1 ((up.trans up3).trans up4) os ag
          obtain ⟨oe4, vs4, he4, hz4, hd4⟩ := fl4.there
          have S4 := J4.suite he4 hd4 na nL nF
          refine store_ok (X := X.suite a ((a, oe4) :: (X.pn ++ pins))) (v := .ref a) S4 hN hi hloc rfl (fun s5 S5 => ?_) (.inr hln)
          refine wpAny_mono ((hsu a oe4 cls d (X.pn ++ pins) hz4 ⟨_, hd4⟩).run [] s5 _ H' _ S5 (hyes rfl a na)) (fun f s6 hsp => ?_) (fun _ _ z => False.elim z)
          have end_ : ∀ {σ6 : L2.St} {H6 : Hp} {Q : Shared → Prop}, Inv (X.suite a ((a, oe4) :: (X.pn ++ pins))) [] σ6 H6 s6 → (∀ s7, Inv X pins (σ6.set i none) H6 s7 → Q s7) →
              wpAny (model X.prog X.w) X.A (do bindName X.env n .none; unbindBehindTheSuite X.env n pos') (fun _ s7 => Q s7) X.xe s6 := fun {σ6 H6 Q} S6 hq => gone_ok (S6.unsuite ok) hN hi hln hq
          cases f with
          | next =>
            obtain ⟨σ6, H6, S6, q6⟩ := hsp
            exact end_ S6 fun s7 J7 => ⟨_, _, J7, q6⟩
          | brk =>
            obtain ⟨σ6, H6, S6, q6⟩ := hsp
            exact end_ S6 fun s7 J7 => ⟨_, _, J7, q6⟩
          | cont =>
            obtain ⟨σ6, H6, S6, q6⟩ := hsp
            exact end_ S6 fun s7 J7 => ⟨_, _, J7, q6⟩
          | ret u =>
            obtain ⟨v6, σ6, H6, S6, r6, q6⟩ := hsp
            exact end_ S6 fun s7 J7 => ⟨_, _, _, J7, r6, q6⟩
        | false =>
          show wpAny _ X.A (handleBy (.ref a) X.env hds2) _ _ _
          exact ih (hno rfl)
    exact go hh w
  · cases f with
    | next =>
      obtain ⟨σ', H', J', q⟩ := hsp
      exact wpAny_execs_nil ⟨σ', H', J'.ofTry ok, q⟩
    | brk =>
      obtain ⟨σ', H', J', q⟩ := hsp
      exact ⟨σ', H', J'.ofTry ok, q⟩
    | cont =>
      obtain ⟨σ', H', J', q⟩ := hsp
      exact ⟨σ', H', J'.ofTry ok, q⟩
    | ret u =>
      obtain ⟨v, σ', H', J', r, q⟩ := hsp
      exact ⟨v, σ', H', J'.ofTry ok, r, q⟩
end
end Ra


set_option Elab.async false
set_option linter.all false
set_option autoImplicit false
set_option maxRecDepth 100000
/-! raise, try -/
namespace Ra
open PySem PySem.Spec PyProof.Rows L2
/-- a call that may raise -/
def tX (K : PySem.W.Frag) (cv : Nat → Value × Str) (W : WX) (p : EV) : TE := fun σ H Q => ∃ env m g, Sg K env σ g H ∧ SimM K m g H ∧ Rx K (zE K cv (WE W σ)) (p env m) g H (Ans K Q)
def tSW (K : PySem.W.Frag) (cv : Nat → Value × Str) (W : WX) (x : EX) : TS := fun D σ H => ∃ env m g, Sg K env σ g H ∧ SimM K m g H ∧ Rx K (zE K cv (WE W σ)) (x env m) g H (FlowQ K D)
section
variable {C : Cs} {call : Call} {X : Cx} {sc : Scope} {fb : Str → Bool} {W : WX} {cv : Nat → Value × Str} {K : PySem.W.Frag}
theorem callX_ok {f : Nat} {ps : List P} {σ : L2.St} {H : Hp} {Q : VK} (h : tX K cv W (fun env m => (cArgs ps env m).noX.bind fun vs m1 => call f vs m1) σ H Q) : tCallS (spOf K cv ps.length (call f)) (WE W) (tAr K (cArgs ps)) σ H Q := by
  obtain ⟨env, m, g, hs, hm, hz⟩ := h
  refine ⟨env, m, g, hs, hm, ?_⟩
  have hz' := Rx.bindX hz
  cases h1 : cArgs ps env m with
  | fail => rw [h1] at hz'; exact hz'.elim
  | exc a b => rw [h1] at hz'; exact hz'.elim
  | ok vs m1 =>
    rw [h1] at hz'
    intro g1 H1 e1 s1 xs rxs
    exact ⟨by rw [rxs.length, cArgs_len ps h1], vs, m1, g1, s1, rxs, hz' g1 H1 e1 s1⟩
def chkX (C : Cs) : XE → Ck
  | .call f es => fun sc fb ex => match ex with
    | .Call (.Name x _) (a :: as) [] _ => chkL C es sc fb (a :: as) && gloB sc x && okName x && fnB C x f es.length
    | _ => false
  | .ite c a b => fun sc fb ex => match ex with
    | .IfExp z x y _ => chkE C c sc fb z && chkX C a sc fb x && chkX C b sc fb y
    | _ => false
theorem soundX (G : Goo C call sc fb X) (tk : Takes X W) : ∀ (e : XE) (ex : Expr), chkX C e sc fb ex = true → PE X ex (tX X.K (cvM X.mg C.xs) W (xv call e))
  | .call f es, ex, h => by
    unfold chkX at h
    split at h
    · rename_i x q a as pos
      simp only [Bool.and_eq_true] at h
      obtain ⟨⟨⟨h1, h2⟩, h3⟩, h4⟩ := h
      have ha := soundL es _ sc fb X G h1
      obtain ⟨pn, pms, hpn, fa, fd, k, k1, k2, k3, _, k5, k6⟩ := fn_ok G h4
      obtain ⟨o1, o2, o3⟩ := okName_ok h3
      rw [hpn, ← sems_len (call := call) es] at k5
      have hp := ha.args
      show PE X _ (tX X.K (cvM X.mg C.xs) W fun env m => (cArgs (sems call es) env m).noX.bind fun vs m1 => call f vs m1)
      generalize sems call es = ps at ha hp k5 ⊢
      cases ha with
      | cons p1 p2 p3 p4 =>
        have q := pe_callS (p := q) (pos := pos) (E := WE W) k5 k6 (gl_ok G h2) k1 k2 k3 (fun σ => passAt tk σ) hp o1 (star1 p3 _ _) (star_plain _ _ _ p4.stars)
        exact PE.weak q fun _ _ _ z => callX_ok z
    · cases h
  | .ite c a b, ex, h => by
    unfold chkX at h
    split at h
    · rename_i z x y pos
      simp only [Bool.and_eq_true] at h
      obtain ⟨⟨h1, h2⟩, h3⟩ := h
      have hc := (soundE c _ sc fb X G h1).2
      have ha := soundX G tk a x h2
      have hb := soundX G tk b y h3
      refine PE.weak (pe_ifExp hc ha hb) fun σ H Q ⟨env, m, g, hs, hm, hz⟩ => ?_
      refine ⟨env, m, g, hs, hm, (Rx.bindX hz).mono fun b m1 g1 H1 e1 s1 z1 => ?_⟩
      cases b with
      | true => exact ⟨env, m1, g1, hs.ext e1, s1, z1⟩
      | false => exact ⟨env, m1, g1, hs.ext e1, s1, z1⟩
    · cases h
theorem setX_ok {i : Nat} {c : Bool} {v : EV} {D : Ends} {σ : L2.St} {H : Hp} (h : tSW K cv W (xSetV i c v) D σ H) : tX K cv W v σ H fun y H1 => gName i y σ H1 D.nx := by
  obtain ⟨env, m, g, hs, hm, hz⟩ := h
  refine ⟨env, m, g, hs, hm, (Rx.bind hz).mono fun v m1 g1 H1 e1 s1 z1 x rx => ?_⟩
  cases hst : stored c v m1 with
  | fail => rw [hst] at z1; exact z1.elim
  | exc a b => exact absurd hst stored_nx
  | ok v' m2 =>
    rw [hst, Res.bind_ok] at z1
    obtain ⟨g2, s2, e2, r2, nf2⟩ := stored_ok s1 rx hst
    unfold setIn at z1
    split at z1
    · rename_i hi
      exact Rx.ok_now (z1.ext e2) s2 _ (((hs.ext e1).ext e2).set r2 nf2 hi)
    · exact z1.elim
theorem notComp_call {e : XE} {ex : Expr} (h : chkX C e sc fb ex = true) (t : Option Expr) (l : Nat) (env : PySem.Env) : swapsWith ex t l env = pure false := by
  cases e with
  | call f es =>
    unfold chkX at h
    split at h
    · rfl
    · cases h
  | ite c a b =>
    unfold chkX at h
    split at h
    · rfl
    · cases h
/-- the body of a try -/
def chkTB (C : Cs) : TB → Scope → (Str → Bool) → Stmt → Bool
  | .set i _ e => fun sc fb st => match st with
    | .Assign [.Name x _] v _ => decide (C.N[i]? = some x) && locB sc x && (fb x || lclB sc x) && chkX C e sc fb v
    | _ => false
  | .ret e => fun sc fb st => match st with
    | .Return (some v) _ => chkX C e sc fb v
    | _ => false
  | .iff c a b => fun sc fb st => match st with
    | .If x [sa] [sb] _ => chkE C c sc fb x && chkTB C a sc fb sa && chkTB C b sc fb sb
    | _ => false
theorem soundTB (G : Goo C call sc fb X) (tk : Takes X W) : ∀ (b : TB) (st : Stmt), chkTB C b sc fb st = true → PS X st (tSW X.K (cvM X.mg C.xs) W (tbX call b))
  | .set i c e, st, h => by
    unfold chkTB at h
    split at h
    · rename_i x q v pos
      simp only [Bool.and_eq_true, decide_eq_true_eq] at h
      obtain ⟨⟨⟨h1, h2⟩, h3⟩, h4⟩ := h
      have hf : X.fn x = true ∨ X.env.scope.names.lookup x = some .local := by
        rcases Bool.or_eq_true_iff.mp h3 with q | q
        · exact .inl (by rw [G.fn]; exact q)
        · exact .inr (lcl_ok G q)
      exact PS.weak (ps_set (by rw [G.N]; exact G.nd) (by rw [G.N]; exact h1) (loc_ok G h2) (soundX G tk e v h4) (notComp_call h4 _ _ _) hf) fun _ _ _ z => setX_ok z
    · cases h
  | .ret e, st, h => by
    unfold chkTB at h
    split at h
    · rename_i v pos
      refine PS.weak (ps_ret (soundX G tk e v h)) fun D σ H ⟨env, m, g, hs, hm, hz⟩ => ?_
      exact ⟨env, m, g, hs, hm, (Rx.bind hz).mono fun v m1 g1 H1 e1 s1 z1 => Rx.ok_now (Z := zE X.K (cvM X.mg C.xs) (WE W σ)) z1 s1⟩
    · cases h
  | .iff c a b, st, h => by
    unfold chkTB at h
    split at h
    · rename_i x sa sb pos
      simp only [Bool.and_eq_true] at h
      obtain ⟨⟨h1, h2⟩, h3⟩ := h
      have hc := (soundE c _ sc fb X G h1).2
      have ha := pss_one (soundTB G tk a sa h2)
      have hb := pss_one (soundTB G tk b sb h3)
      refine PS.weak (ps_if hc ha hb) fun D σ H ⟨env, m, g, hs, hm, hz⟩ => ?_
      refine ⟨env, m, g, hs, hm, (Rx.bindX hz).mono fun t m1 g1 H1 e1 s1 z1 => ?_⟩
      cases t with
      | true => exact ⟨env, m1, g1, hs.ext e1, s1, z1⟩
      | false => exact ⟨env, m1, g1, hs.ext e1, s1, z1⟩
    · cases h
/-! statements -/
theorem ps_setxR (G : Goo C call sc fb X) {E : XK} (tk : Takes X (fun cls d _ H => E cls d H)) {i : Nat} {c : Bool} {e : XE} {x : Str} {v : Expr} {q pos : Pos} (h1 : C.N[i]? = some x) (h2 : locB sc x = true) (h3 : (fb x || lclB sc x) = true) (h4 : chkX C e sc fb v = true) :
    PS X (.Assign [.Name x q] v pos) (tS X.K (zE X.K (cvM X.mg C.xs) E) (xSetV i c (xv call e))) := by
  have hf : X.fn x = true ∨ X.env.scope.names.lookup x = some .local := by
    rcases Bool.or_eq_true_iff.mp h3 with q | q
    · exact .inl (by rw [G.fn]; exact q)
    · exact .inr (lcl_ok G q)
  exact PS.weak (ps_set (by rw [G.N]; exact G.nd) (by rw [G.N]; exact h1) (loc_ok G h2) (soundX G tk e v h4) (notComp_call h4 _ _ _) hf) fun _ _ _ z => setX_ok z
theorem ps_exprxR (G : Goo C call sc fb X) {E : XK} (tk : Takes X (fun cls d _ H => E cls d H)) {e : XE} {v : Expr} {pos : Pos} (h4 : chkX C e sc fb v = true) :
    PS X (.Expr v pos) (tS X.K (zE X.K (cvM X.mg C.xs) E) fun env m => (xv call e env m).bind fun _ m1 => .ok (.next env) m1) := by
  refine PS.weak (ps_expr (soundX G tk e v h4) (notComp_call h4 _ _ _)) fun D σ H ⟨env, m, g, hs, hm, hz⟩ => ?_
  exact ⟨env, m, g, hs, hm, (Rx.bind hz).mono fun v m1 g1 H1 e1 s1 z1 x rx => Rx.ok_now z1 s1 σ (hs.ext e1)⟩
theorem ps_retxR (G : Goo C call sc fb X) {E : XK} (tk : Takes X (fun cls d _ H => E cls d H)) {e : XE} {v : Expr} {pos : Pos} (h4 : chkX C e sc fb v = true) :
    PS X (.Return (some v) pos) (tS X.K (zE X.K (cvM X.mg C.xs) E) fun env m => (xv call e env m).bind fun v m1 => .ok (.ret v) m1) := by
  refine PS.weak (ps_ret (soundX G tk e v h4)) fun D σ H ⟨env, m, g, hs, hm, hz⟩ => ?_
  exact ⟨env, m, g, hs, hm, (Rx.bind hz).mono fun v m1 g1 H1 e1 s1 z1 => Rx.ok_now (Z := zE X.K (cvM X.mg C.xs) E) z1 s1⟩
/-- X() -/
theorem pmk_none {D : Addr} {bmB : List Value} {B newId initId : String} {x : Str} {p pos : Pos} (F : ExcBaseFacts B newId initId bmB) (q : PySem.W.excIn X.K D bmB newId = true) (gC : X.mg x = some (.ref D)) (kC : PySem.W.keepIn X.K (.ref D) = true) (r : Raises X (.ref D)) (hg : Gl X x)
    (hdb : (x == ("__debug__" : Str)) = false) : PMk X (.Call (.Name x p) [] [] pos) (fun _ H Q => Q (.ref D) none H) := by
  intro pins s σ H Q I h
  refine wpAny_Call_Name_kw (ld_glob I hg gC ?_ hdb)
  refine PySem.W.callWith_K0 I.kIn kC ?_
  show wpAny _ _ (PySem.call (.ref D) []) _ _ _
  obtain ⟨bm, N, nm, qn, bs, hdct, sn, sub, ab, col, dd, k0, k1, k2, k3, k5, mN, hC, hN, hni, T⟩ := exc_obj I.kIn q
  exact wpAny_call_exc_subT F T hC hN hni (fun h' e hm => mk_of I hm r h (I.hok.gone hm.new)) (Nat.zero_le _)
theorem xBaseF (lk : Bool) : ∃ B i, ExcBaseFacts B (xNew lk) i (xBase lk) := by
  cases lk
  · exact ⟨_, _, F.excBase_ValueError⟩
  · exact ⟨_, _, F.excBase_LookupError⟩
/-- the class is named rightly -/
def xcB (C : Cs) (c : Nat) (x : Str) (f : Bool) : Bool := match C.xs[c]? with
  | some i => decide (i.nm = x) && (i.fd.isSome == f)
  | none => false
theorem xcB_ok {c : Nat} {x : Str} {f : Bool} (h : xcB C c x f = true) : ∃ i, C.xs[c]? = some i ∧ i.nm = x ∧ i.fd.isSome = f := by
  unfold xcB at h
  split at h
  · rename_i i e
    obtain ⟨h1, h2⟩ := Bool.and_eq_true_iff.mp h
    exact ⟨i, e, of_decide_eq_true h1, eq_of_beq h2⟩
  · cases h
theorem cv_at {c : Nat} {i : XCl} {D : Addr} (h : C.xs[c]? = some i) (hm : X.mg i.nm = some (.ref D)) : cvM X.mg C.xs c = (.ref D, i.fd.getD ⟨#[]⟩) := by
  unfold cvM
  rw [h]
  simp only [hm, Option.getD_some]
theorem ps_raiseR (G : Goo C call sc fb X) {E : XK} (tk : Takes X (fun cls d _ H => E cls d H)) {c : Nat} {x : Str} {p pos pos' : Pos} (hx : xcB C c x false = true) (hg : gloB sc x = true) (ok : okName x = true) :
    PS X (.Raise (some (.Call (.Name x p) [] [] pos)) none pos') (tS X.K (zE X.K (cvM X.mg C.xs) E) fun _ m => .exc ⟨c, []⟩ m) := by
  obtain ⟨i, hi, rfl, hf⟩ := xcB_ok hx
  obtain ⟨D, h1, h2, h3, h4, _, _, _⟩ := (G.xcs c i hi).ex
  obtain ⟨o1, o2, o3⟩ := okName_ok ok
  have h2' : PySem.W.excIn X.K D (xBase i.lk) (xNew i.lk) = true := by
    cases hfd : i.fd with
    | none => rw [hfd] at h2; exact h2
    | some f => rw [hfd] at hf; cases hf
  obtain ⟨B, ii, FB⟩ := xBaseF i.lk
  refine PS.weak (ps_raise G.calm tk (pmk_none FB h2' h1 h3 h4 (gl_ok G hg) o1)) fun D' σ H ⟨env, m, g, hs, hm, hz⟩ => ?_
  have q := hz g H (Ext.refl _ _) hm none (.inl ⟨rfl, rfl⟩)
  rw [cv_at hi h1] at q
  exact q
theorem ps_raise1R (G : Goo C call sc fb X) {E : XK} (tk : Takes X (fun cls d _ H => E cls d H)) {c : Nat} {x : Str} {pe : P} {a : Expr} {p pos pos' : Pos} (hx : xcB C c x true = true) (hg : gloB sc x = true) (ok : okName x = true) (hsup : X.mg "super" = none) (ha : PE X a (tE X.K pe.v)) (ns : notStar a = true) :
    PS X (.Raise (some (.Call (.Name x p) [a] [] pos)) none pos') (tS X.K (zE X.K (cvM X.mg C.xs) E) fun env m => (pe.v env m).noX.bind fun v m1 => (frz v m1).bind fun x m2 => .exc ⟨c, [x]⟩ m2) := by
  obtain ⟨i, hi, rfl, hf⟩ := xcB_ok hx
  obtain ⟨D, h1, h2, h3, h4, _, _, _⟩ := (G.xcs c i hi).ex
  obtain ⟨o1, o2, o3⟩ := okName_ok ok
  obtain ⟨k, hk⟩ := G.room
  cases hfd : i.fd with
  | none => rw [hfd] at hf; cases hf
  | some f =>
    rw [hfd] at h2
    obtain ⟨fI, B, nw, ii, bm, T, _⟩ := h2
    refine PS.weak (ps_raise G.calm tk (pmk_sup T h1 h3 h4 hsup hk (pa_cons ha pa_nil (star1 ns _ _)) (gl_ok G hg) o1 (star1 ns _ _))) fun D' σ H ⟨env, m, g, hs, hm, hz⟩ => ?_
    refine ⟨env, m, g, hs, hm, (Rx.bindX hz).mono fun v m1 g1 H1 e1 s1 z1 y ry => ?_⟩
    refine ⟨y, rfl, fun d hd => ?_⟩
    cases hfz : frz v m1 with
    | fail => rw [hfz] at z1; exact z1.elim
    | exc a b => exact absurd hfz frz_nx
    | ok x m2 =>
      rw [hfz, Res.bind_ok] at z1
      obtain ⟨g2, s2, e2, r2⟩ := s1.frz ry hfz
      have e3 := ext_new (o := HO.xd [(f, y)]) s2 hd
      have q := z1 g2 _ (e2.trans e3) (sim_new s2 hd trivial) (some d)
      rw [cv_at hi h1, hfd] at q
      exact q (.inr ⟨x, d, y, rfl, rfl, upd_same, Rp.ext e3 _ r2⟩)
/-! try -/
/-- what the clause's list holds, the error's dict at d -/
inductive ItsR (f : Str) (d : Option Addr) (H : Hp) : List HI → List V → Prop
  | nil : ItsR f d H [] []
  | cst {c : PyData} {v : V} {hs : List HI} {vs : List V} : flatD c = some v → ItsR f d H hs vs → ItsR f d H (.cst c :: hs) (v :: vs)
  | isi {T b : Bool} {hs : List HI} {vs : List V} : ItsR f d H hs vs → ItsR f d H (.isi T b :: hs) (.bl b :: vs)
  | fld {dd : Addr} {v : V} {hs : List HI} {vs : List V} : d = some dd → H dd = some (.xd [(f, v)]) → ItsR f d H hs vs → ItsR f d H (.fld :: hs) (v :: vs)
def DOk (f : Str) (d : Option Addr) (H : Hp) : Prop := d = none ∨ ∃ dd v, d = some dd ∧ H dd = some (.xd [(f, v)])
theorem XD.ok {f : Str} {vals : List PyData} {d : Option Addr} {g : Ra.G} {H : Hp} (h : XD K f vals d g H) : DOk f d H := by
  rcases h with ⟨_, e⟩ | ⟨y, dd, v, _, e, q, _⟩
  · exact .inl e
  · exact .inr ⟨dd, v, e, q⟩
theorem hisV_ok {x : Exn} {f : Str} {d : Option Addr} {g : Ra.G} {H : Hp} (hx : XD K f x.vals d g H) : ∀ {hs : List HI} {ys : List PyData}, (∀ c, HI.cst c ∈ hs → ∃ v, flatD c = some v) → hisV x hs = some ys → ∃ vs, ItsR f d H hs vs ∧ RpAll K g.F H vs ys
  | [], ys, _, h => by cases h; exact ⟨[], .nil, .nil⟩
  | h :: r, ys, hc, hv => by
    unfold hisV at hv
    split at hv
    · rename_i y ys' h1 h2
      cases hv
      obtain ⟨vs, q1, q2⟩ := hisV_ok hx (fun c hm => hc c (List.mem_cons_of_mem _ hm)) h2
      cases h with
      | cst c =>
        have ec : c = y := Option.some.inj h1
        subst ec
        obtain ⟨v, hv⟩ := hc c List.mem_cons_self
        exact ⟨v :: vs, .cst hv q1, .cons (flat_rp hv _ _) q2⟩
      | isi T b =>
        cases h1
        exact ⟨_, .isi q1, .cons (.bl b) q2⟩
      | fld =>
        have h1' : x.vals.head? = some y := h1
        rcases hx with ⟨e, _⟩ | ⟨y', dd, v, e, ed, eq, rp⟩
        · rw [e] at h1'; cases h1'
        · rw [e] at h1'
          cases h1'
          exact ⟨v :: vs, .fld ed eq q1, .cons rp q2⟩
    · cases hv
theorem its_len {f : Str} {d : Option Addr} {H : Hp} : ∀ {hs : List HI} {vs : List V}, ItsR f d H hs vs → vs.length = hs.length
  | _, _, .nil => rfl
  | _, _, .cst _ t => by simp [its_len t]
  | _, _, .isi t => by simp [its_len t]
  | _, _, .fld _ _ t => by simp [its_len t]
/-- a class of which the built-in one is another -/
def xNm : Bool → Str
  | true => "LookupError"
  | false => "ValueError"
def xTy : Bool → String
  | true => "LookupError"
  | false => "ValueError"
def hiB (C : Cs) (sc : Scope) (n : Str) (i : XCl) : HI → Expr → Bool
  | .cst c, .Constant k _ _ => cstB c k
  | .isi T b, .Call (.Name x _) [.Name y _, .Name z _] [] _ => decide (x = "isinstance") && bltB C sc x && decide (y = n) && decide (z = xNm T) && bltB C sc z && (b == (T == i.lk))
  | .fld, .Attribute (.Name y _) f _ => decide (y = n) && decide (i.fd = some f)
  | _, _ => false
def hisB (C : Cs) (sc : Scope) (n : Str) (i : XCl) : List HI → List Expr → Bool
  | [], [] => true
  | h :: r, e :: es => hiB C sc n i h e && hisB C sc n i r es
  | _, _ => false
theorem pe_cst {X : Cx} {c : PyData} {k : Const} {j : Nat} {pos : Pos} (h : cstB c k = true) : ∃ v, flatD c = some v ∧ PE X (.Constant k j pos) (tC v) := by
  unfold cstB at h
  split at h
  · exact ⟨_, rfl, pe_non⟩
  · have h' := eq_of_beq h
    subst h'
    exact ⟨_, rfl, pe_bl⟩
  · have h' := of_decide_eq_true h
    subst h'
    exact ⟨_, rfl, pe_int⟩
  · obtain ⟨h1, h2⟩ := Bool.and_eq_true_iff.mp h
    have h' := of_decide_eq_true h1
    subst h'
    exact ⟨_, by simp [flatD, h2], pe_str⟩
  · cases h
/-- isinstance(e, c), e the error that the suite holds, its dict at d -/
def rIsD (K : PySem.W.Frag) (D a : Addr) (d : Option Addr) (f : Str) : List V → Hp → VK → Prop := fun xs H Q => ∃ (c : V) (cv : Value) (b : Bool), xs = [.ref a, c] ∧ (∀ u, RelV c u → u = cv) ∧ PySem.W.kitOne K (.ref D) cv = some b ∧ DOk f d H ∧ Q (.bl b) H
theorem call_isD {a D : Addr} {oe : Obj} {d : Option Addr} {f : Str} {pn : List (Addr × Obj)} (T : ExcC X.K D) (hz : Zc (.ref D) d oe) (hf : ∃ vs, oe.data = .fields vs) : CallR (X.suite a ((a, oe) :: pn)) (.builtin "isinstance") (rIsD X.K D a d f) := by
  intro pins s σ H xs us Q I r h
  obtain ⟨c, cv, b, rfl, hcv, e, hd, q⟩ := h
  cases r with
  | cons rx rr =>
    cases rr with
    | cons rt rr =>
      cases rr
      cases rx
      have ec := hcv _ rt
      subst ec
      obtain ⟨hget, _⟩ := I.pin (a, oe) (List.mem_append.mpr (.inl List.mem_cons_self))
      obtain ⟨vs, hv⟩ := hf
      have hcl : (PySem.W.clsIn X.K D).isSome = true := by
        obtain ⟨cd, hc, _⟩ := PySem.W.any_some T.hd
        rw [hc]; rfl
      have J : ∃ od, PySem.W.InstAt s.heap a oe D od := by
        rcases hd with rfl | ⟨dd, v, rfl, hdd⟩
        · exact ⟨none, hget, hz.1, by unfold PySem.W.notCls; rw [hv], by rw [hz.2]; trivial⟩
        · obtain ⟨mA, hns, hr⟩ := I.hok dd _ hdd
          obtain ⟨od, ho, hl⟩ := lookIn_ns hns
          exact ⟨some od, hget, hz.1, by unfold PySem.W.notCls; rw [hv], by rw [hz.2]; exact ho⟩
      obtain ⟨od, J⟩ := J
      exact PySem.W.kia_one (PySem.W.kitx_exc (od := od) (ox := oe) (x := a) hcl T.hg T.hk T.hs T.ha T.hn T.ht T.hm) I.kIn J e (fun z => nomatch z) fun tk => ⟨.bl b, H, I.kept (t' := tk) fun _ _ z => z, rfl, q⟩
/-- the list of a clause -/
theorem pa_his (G : Goo C call sc fb X) {n : Str} {nm : Nat} (hn : X.N[nm]? = some n) (hv : visB sc n = true) (okn : okName n = true) {i : XCl} {a D : Addr} {oe : Obj} {d : Option Addr} {pn : List (Addr × Obj)} (T : ExcC X.K D) (mk : MkX X.K X.prog D i.lk i.fd) (hk : PySem.W.kitOne X.K (.ref D) (.type "ValueError") = some (!i.lk) ∧ PySem.W.kitOne X.K (.ref D) (.type "LookupError") = some i.lk) (hz : Zc (.ref D) d oe) (hf : ∃ vs, oe.data = .fields vs) :
    ∀ {hs : List HI} {es : List Expr}, hisB C sc n i hs es = true → (∀ c, HI.cst c ∈ hs → ∃ v, flatD c = some v) ∧ PA (X.suite a ((a, oe) :: pn)) es (fun σ H Q => σ[nm]? = some (some (.ref a)) ∧ DOk (i.fd.getD ⟨#[]⟩) d H ∧ ∃ vs, ItsR (i.fd.getD ⟨#[]⟩) d H hs vs ∧ Q vs H)
  | [], [], _ => ⟨fun c h => (by cases h), PA.weak pa_nil fun _ _ _ ⟨_, _, vs, h1, h2⟩ => (by cases h1; exact h2)⟩
  | [], _ :: _, h => by cases h
  | _ :: _, [], h => by cases h
  | h :: r, e :: es, hb => by
    obtain ⟨h1, h2⟩ := Bool.and_eq_true_iff.mp (show (hiB C sc n i h e && hisB C sc n i r es) = true from hb)
    obtain ⟨k1, k2⟩ := pa_his G hn hv okn (pn := pn) T mk hk hz hf h2
    obtain ⟨r1, r2, r3⟩ := okName_ok okn
    have pv : ∀ q2, PE (X.suite a ((a, oe) :: pn)) (.Name n q2) (tVar nm) := fun q2 => pe_var (X := X.suite a ((a, oe) :: pn)) hn (vis_ok G hv) r1 r2
    unfold hiB at h1
    split at h1
    · rename_i c k j pos
      obtain ⟨v, q1, q2⟩ := pe_cst (X := X.suite a ((a, oe) :: pn)) (j := j) (pos := pos) h1
      refine ⟨fun c' hm => ?_, PA.weak (pa_cons q2 k2 (star1 rfl _ _)) fun σ H Q z => ?_⟩
      · rcases List.mem_cons.mp hm with e | hm
        · cases e; exact ⟨v, q1⟩
        · exact k1 c' hm
      · obtain ⟨a1, a2, vs, a3, a4⟩ := z
        cases a3 with
        | cst hc t =>
          rw [q1] at hc
          cases hc
          exact ⟨a1, a2, _, t, a4⟩
    · rename_i T' b x q y q2 z q3 pos
      simp only [Bool.and_eq_true, decide_eq_true_eq] at h1
      obtain ⟨⟨⟨⟨⟨a1, a2⟩, a3⟩, a4⟩, a5⟩, a6⟩ := h1
      obtain ⟨g1, g2, g3⟩ := blt_ok G a2
      obtain ⟨l1, l2, l3⟩ := blt_ok G a5
      obtain ⟨o1, o2, o3⟩ := okName_ok g3
      obtain ⟨p1, p2, p3⟩ := okName_ok l3
      subst a1 a3 a4
      have a6' := eq_of_beq a6
      have hkT : PySem.W.kitOne X.K (.ref D) (.type (xTy T')) = some b := by
        cases T' with
        | true => rw [a6', show (true == i.lk) = i.lk by simp]; exact hk.2
        | false => rw [a6', show (false == i.lk) = !i.lk by cases i.lk <;> rfl]; exact hk.1
      have pz : PE (X.suite a ((a, oe) :: pn)) (.Name (xNm T') q3) (tC (.ty (xTy T'))) := pe_bltn (X := X.suite a ((a, oe) :: pn)) l1 l2 (u := .type (xTy T')) (by cases T' <;> decide +kernel) rfl p3 p1
      have pc := pe_callB (X := X.suite a ((a, oe) :: pn)) (pos := pos) (p := q) (call_isD (f := i.fd.getD ⟨#[]⟩) T hz hf) g1 g2 (by decide +kernel) (pa_cons (pv q2) (pa_cons pz pa_nil)) o3 o1 rfl rfl
      refine ⟨fun c' hm => ?_, PA.weak (pa_cons pc k2 (star1 rfl _ _)) fun σ H Q z => ?_⟩
      · rcases List.mem_cons.mp hm with e | hm
        · cases e
        · exact k1 c' hm
      · obtain ⟨b1, b2, vs, b3, b4⟩ := z
        cases b3 with
        | isi t => exact ⟨.ref a, b1, .ty (xTy T'), .type (xTy T'), b, rfl, fun u hu => hu, hkT, b2, b1, b2, _, t, b4⟩
    · rename_i y q2 f pos
      simp only [Bool.and_eq_true, decide_eq_true_eq] at h1
      obtain ⟨rfl, hfd⟩ := h1
      rw [hfd] at mk
      obtain ⟨fI, B, nw, ii, bm, ST, XF⟩ := mk
      have pc := pe_xf (X := X) (pn := pn) (pos := pos) XF ST.noN hz hf (pv q2)
      refine ⟨fun c' hm => ?_, PA.weak (pa_cons pc k2 (star1 rfl _ _)) fun σ H Q z => ?_⟩
      · rcases List.mem_cons.mp hm with e | hm
        · cases e
        · exact k1 c' hm
      · obtain ⟨b1, b2, vs, b3, b4⟩ := z
        rw [hfd] at b2 b3
        cases b3 with
        | fld ed eq t => exact ⟨.ref a, b1, rfl, rfl, _, _, _, ed, eq, by simp [List.lookup], b1, by rw [hfd]; exact b2, _, by rw [hfd]; exact t, b4⟩
    · cases h1
theorem set3 (σ : L2.St) (i j : Nat) (a y : Option V) : ((σ.set i a).set j y).set i none = ((σ.set i none).set j y).set i none := by
  apply List.ext_getElem?
  intro k
  simp only [List.getElem?_set, List.length_set]
  by_cases h1 : i = k
  · simp [h1]
  · simp [h1]
def hdB (C : Cs) (sc : Scope) (fb : Str → Bool) (h : Hd) : ExceptHandler → Bool
  | .ExceptHandler (some (.Name x _)) (some n) [st] _ => (match C.xs[h.cls]? with
    | none => false
    | some i => decide (i.nm = x) && decide (h.n = C.xs.length) && gloB sc x && okName x && decide (C.N[h.nm]? = some n) && lclB sc n && okName n && decide (h.items.length ≤ 1000) && (match st with
      | .Assign [.Name y _] (.List es _) _ => !h.ret && decide (C.N[h.dst]? = some y) && locB sc y && (fb y || lclB sc y) && hisB C sc n i h.items es
      | .Return (some (.List es _)) _ => h.ret && hisB C sc n i h.items es
      | _ => false))
  | _ => false
/-- what a clause reads -/
def tHd (D0 : Addr) (f : Str) (h : Hd) (a : Addr) (cls : Value) (d : Option Addr) : TS := fun D σ H => cls = .ref D0 ∧ σ[h.nm]? = some (some (.ref a)) ∧ DOk f d H ∧ ∃ vs, ItsR f d H h.items vs ∧ ∀ p, H p = none → if h.ret = true then D.rt (.ref p) (upd H p (.lst vs)) else D.nx (σ.set h.dst (some (.ref p))) (upd H p (.lst vs))
theorem vis_of_lcl {n : Str} (h : lclB sc n = true) : visB sc n = true := by
  unfold lclB at h
  unfold visB
  split at h
  · rename_i e; rw [e]
  · cases h
theorem Goo.tr (G : Goo C call sc fb X) (pn : List (Addr × Obj)) (xe : Value → Shared → Prop) : Goo C call sc fb (X.tr pn xe) where
  hsc := G.hsc
  kind := G.kind
  N := G.N
  nd := G.nd
  calm := G.calm
  fn := G.fn
  free := G.free
  glo := G.glo
  fns := fun i x ps pms h => by
    obtain ⟨f, fd, k, h1, h2, h3, h4, h5, h6⟩ := (G.fns i x ps pms h).at_
    exact ⟨f, fd, k, h1, h2, h3, h4, h5, h6⟩
  xcs := fun c n h => by
    obtain ⟨C, h1, h2, h3, h4, h5, h6, h7⟩ := (G.xcs c n h).ex
    exact ⟨C, h1, h2, h3, h4, h5, h6, h7⟩
  units := G.units
  room := G.room
def hdsB (C : Cs) (sc : Scope) (fb : Str → Bool) : List Hd → List ExceptHandler → Bool
  | [], [] => true
  | h :: hs, e :: es => hdB C sc fb h e && hdsB C sc fb hs es
  | _, _ => false
/-- what is known of a clause -/
structure ClOk (X : Cx) (C : Cs) (h : Hd) (l : Cl) : Prop where
  ex : ∃ (i : XCl) (D0 : Addr), C.xs[h.cls]? = some i ∧ h.n = C.xs.length ∧ X.mg i.nm = some (.ref D0) ∧ (∀ c, HI.cst c ∈ h.items → ∃ v, flatD c = some v) ∧ h.items.length ≤ 1000 ∧ l = (.ref D0, h.nm, tHd D0 (i.fd.getD ⟨#[]⟩) h)
inductive ClsOk (X : Cx) (C : Cs) : List Hd → List Cl → Prop
  | nil : ClsOk X C [] []
  | cons {h : Hd} {l : Cl} {hs : List Hd} {ls : List Cl} (a : ClOk X C h l) (b : ClsOk X C hs ls) : ClsOk X C (h :: hs) (l :: ls)
theorem hds_ok (G : Goo C call sc fb X) : ∀ {hs : List Hd} {es : List ExceptHandler}, hdsB C sc fb hs es = true → ∃ l, HdsA X es l ∧ ClsOk X C hs l
  | [], [], _ => ⟨[], .nil, .nil⟩
  | [], _ :: _, h => by cases h
  | _ :: _, [], h => by cases h
  | h :: hs, e :: es, h0 => by
    obtain ⟨h2, h0'⟩ := Bool.and_eq_true_iff.mp h0
    obtain ⟨ls, k1, k2⟩ := hds_ok G h0'
    unfold hdB at h2
    split at h2
    · rename_i x q n st q5
      split at h2
      · cases h2
      · rename_i i hi
        simp only [Bool.and_eq_true, decide_eq_true_eq] at h2
        obtain ⟨⟨⟨⟨⟨⟨⟨⟨a1, a2⟩, a3⟩, a4⟩, a5⟩, a6⟩, a7⟩, a12⟩, a13⟩ := h2
        subst a1
        obtain ⟨D0, b1, b2, b3, b4, b5, b6, b7⟩ := (G.xcs h.cls i hi).ex
        obtain ⟨o1, o2, o3⟩ := okName_ok a4
        have hN : X.N.Nodup := by rw [G.N]; exact G.nd
        have hnm : X.N[h.nm]? = some n := by rw [G.N]; exact a5
        have hk : X.env.kindOf n = some .local := lcl_ok G a6
        have hnam : Names X i.nm (.ref D0) := ⟨gl_ok G a3, o1, .inl b1⟩
        have key : (∀ c, HI.cst c ∈ h.items → ∃ v, flatD c = some v) ∧ ∀ (a : Addr) (oe : Obj) (cls : Value) (d : Option Addr) (pn : List (Addr × Obj)), Zc cls d oe → (∃ vs, oe.data = .fields vs) → PSs (X.suite a ((a, oe) :: pn)) [st] (tHd D0 (i.fd.getD ⟨#[]⟩) h a cls d) := by
          split at a13
          · rename_i y q2 es q3 q4
            simp only [Bool.and_eq_true, decide_eq_true_eq] at a13
            obtain ⟨⟨⟨⟨c0, c1⟩, c2⟩, c3⟩, c4⟩ := a13
            have hdst : X.N[h.dst]? = some y := by rw [G.N]; exact c1
            have hret : h.ret = false := by simpa using c0
            have hfy : X.fn y = true ∨ X.env.scope.names.lookup y = some .local := by
              rcases Bool.or_eq_true_iff.mp c3 with q | q
              · exact .inl (by rw [G.fn]; exact q)
              · exact .inr (lcl_ok G q)
            refine ⟨(pa_his (a := 0) (oe := ⟨.ref D0, none, .fields #[], #[]⟩) (d := none) (pn := []) G hnm (vis_of_lcl a6) a7 b5 b2 b6 ⟨rfl, rfl⟩ ⟨_, rfl⟩ c4).1, fun a oe cls d pn hz hf => ⟨fun pins s σ H D I hh => ?_⟩⟩
            obtain ⟨rfl, e1, e2, vs, e3, e4⟩ := hh
            have k3 := (pa_his (a := a) (pn := pn) G hnm (vis_of_lcl a6) a7 b5 b2 b6 hz hf c4).2
            have p1 := ps_set (X := X.suite a ((a, oe) :: pn)) (pos' := q2) (pos := q4) hN hdst (loc_ok G c2) (pe_lst (pos := q3) k3) rfl hfy
            refine (pss_one p1).run pins s σ H D I ⟨e1, e2, vs, e3, ?_, fun p hp => ?_⟩
            · rw [its_len e3, sizeLine_eq]
              omega
            · have := e4 p hp
              rw [hret] at this
              exact this
          · rename_i es q3 q4
            obtain ⟨c0, c4⟩ := Bool.and_eq_true_iff.mp a13
            refine ⟨(pa_his (a := 0) (oe := ⟨.ref D0, none, .fields #[], #[]⟩) (d := none) (pn := []) G hnm (vis_of_lcl a6) a7 b5 b2 b6 ⟨rfl, rfl⟩ ⟨_, rfl⟩ c4).1, fun a oe cls d pn hz hf => ⟨fun pins s σ H D I hh => ?_⟩⟩
            obtain ⟨rfl, e1, e2, vs, e3, e4⟩ := hh
            have k3 := (pa_his (a := a) (pn := pn) G hnm (vis_of_lcl a6) a7 b5 b2 b6 hz hf c4).2
            have p1 := ps_ret (X := X.suite a ((a, oe) :: pn)) (pos := q4) (pe_lst (pos := q3) k3)
            refine (pss_one p1).run pins s σ H D I ⟨e1, e2, vs, e3, ?_, fun p hp => ?_⟩
            · rw [its_len e3, sizeLine_eq]
              omega
            · have := e4 p hp
              rw [c0] at this
              exact this
          · cases a13
        exact ⟨(.ref D0, h.nm, tHd D0 (i.fd.getD ⟨#[]⟩) h) :: ls, .cons hnm hk hnam key.2 k1, .cons ⟨i, D0, hi, a2, b1, key.1, a12, rfl⟩ k2⟩
    · cases h2
theorem cls_w (G : Goo C call sc fb X) {E : XK} {D : Ends} {x : Exn} {env : Env} {σ : L2.St} {m1 : Mem} {g g' : Ra.G} {H H' : Hp} {d : Option Addr} (hs : Sg X.K env σ g H) (e' : Ext g H g' H') (s' : SimM X.K m1 g' H') (hd : XD X.K (cvM X.mg C.xs x.cls).2 x.vals d g' H') : ∀ {hs' : List Hd} {l : List Cl}, ClsOk X C hs' l → Rx X.K (zE X.K (cvM X.mg C.xs) E) (hdsX hs' x env m1) g H (FlowQ X.K D) →
    wAsN X.K (fun cls d _ H => E cls d H) D l (cvM X.mg C.xs x.cls).1 d σ H'
  | _, _, .nil, hz => hz g' H' e' s' d hd
  | h :: hs', _, .cons ⟨i, D0, a1, a2, b1, v1, a12, el⟩ k, hz => by
    subst el
    unfold hdsX at hz
    split at hz
    · exact hz.elim
    · rename_i hlt
      have hlt : x.cls < C.xs.length := by rw [← a2]; omega
      obtain ⟨D1, d1, d2, d3, d4, d5, d6, d7⟩ := (G.xcs x.cls C.xs[x.cls] (List.getElem?_eq_getElem hlt)).ex
      have ecv := cv_at (X := X) (List.getElem?_eq_getElem hlt) d1
      obtain ⟨D2, f1, f2⟩ := d7 h.cls _ a1
      rw [b1] at f1
      cases f1
      refine ⟨decide (x.cls = h.cls), by rw [ecv]; exact f2, fun hbt a ha => ?_, fun hbf => ?_⟩
      · have hc : x.cls = h.cls := of_decide_eq_true hbt
        rw [if_pos hc] at hz
        have ecv2 : cvM X.mg C.xs x.cls = (.ref D0, i.fd.getD ⟨#[]⟩) := by rw [hc]; exact cv_at (X := X) a1 b1
        split at hz
        · rename_i ys hys
          rw [ecv2] at hd
          obtain ⟨vs, q1, q2⟩ := hisV_ok hd v1 hys
          have hsz : vs.length ≤ sizeLine := by
            rw [its_len q1, sizeLine_eq]
            omega
          split at hz
          · rename_i hr
            split at hz
            · rename_i hl
              refine ⟨by rw [ecv2], ?_, hd.ok, vs, q1, fun p hp => ?_⟩
              · rw [List.getElem?_set_self (by rw [← hs.len]; exact hl)]
              · rw [if_pos hr]
                obtain ⟨s2, e2, rv⟩ := new_list s' hp q2 hsz
                exact hz _ _ (e'.trans e2) s2 _ rv
            · exact hz.elim
          · rename_i hr
            split at hz
            · rename_i hl
              refine ⟨by rw [ecv2], ?_, hd.ok, vs, q1, fun p hp => ?_⟩
              · rw [List.getElem?_set_self (by rw [← hs.len]; exact hl.1)]
              · rw [if_neg hr]
                obtain ⟨s2, e2, rv⟩ := new_list s' hp q2 hsz
                obtain ⟨g3, s3, e3, rv3⟩ := s2.hold rv
                have hs3 := ((hs.ext e').ext e2).ext e3
                have hs4 := ((hs3.wipe1 h.nm).set rv3 (nf_ne _) (by simpa using hl.2)).wipe1 h.nm
                have q := hz _ _ ((e'.trans e2).trans e3) s3 _ hs4
                show D.nx (((List.set σ h.nm (some (V.ref a))).set h.dst (some (V.ref p))).set h.nm none) _
                rw [set3]
                exact q
            · exact hz.elim
        · exact hz.elim
      · have hc : ¬ x.cls = h.cls := of_decide_eq_false hbf
        rw [if_neg hc] at hz
        exact cls_w G hs e' s' hd k hz
theorem ps_tryR (G : Goo C call sc fb X) {E : XK} (A : Arnd X (fun cls d _ H => E cls d H)) {b : TB} {hs : List Hd} {st : Stmt} {hd : ExceptHandler} {hds : List ExceptHandler} {pos : Pos} (h1 : chkTB C b sc fb st = true) (h2 : hdsB C sc fb hs (hd :: hds) = true) :
    PS X (.Try [st] (hd :: hds) [] [] pos) (tS X.K (zE X.K (cvM X.mg C.xs) E) (xTry (tbX call b) hs)) := by
  obtain ⟨l, k1, k2⟩ := hds_ok G h2
  have hN : X.N.Nodup := by rw [G.N]; exact G.nd
  refine PS.weak (ps_try_asN (tb := fun W => tSW X.K (cvM X.mg C.xs) W (tbX call b)) A.hs A.hf hN A.tk (fun W pn xe tk _ => pss_one (soundTB (X := X.tr pn xe) (G.tr pn xe) tk b st h1)) k1) fun D σ H ⟨env, m, g, hs', hm, hz⟩ => ?_
  refine ⟨env, m, g, hs', hm, ?_⟩
  unfold xTry at hz
  cases hb : tbX call b env m with
  | fail => rw [hb] at hz; exact hz.elim
  | ok f m1 => rw [hb] at hz; exact hz
  | exc x m1 =>
    rw [hb] at hz
    intro g' H' e' s' d hd
    exact cls_w G hs' e' s' hd k2 hz
end
end Ra


set_option Elab.async false
set_option linter.all false
set_option autoImplicit false
set_option maxRecDepth 100000
/-! statements that are checked are sound -/
namespace Ra
open PySem PySem.Spec PyProof.Rows L2
def isStarE : Expr → Bool
  | .Starred .. => true
  | _ => false
/-- the names that are stored crosswise; none at the outside: not told -/
def swB (sc : Scope) (ts vs : List Expr) : Option (Option (List Str)) :=
  if (!(ts.length == 2 || ts.length == 3) || vs.length != ts.length) = true then some none
  else if (vs.any isStarE) = true then some none
  else
    let line := (ts.head?.map (·.pos.line)).getD 0
    let names := ts.filterMap fun
      | .Name id pos => if (sc.names.lookup id == some .local && pos.line == line) = true then some id else none
      | _ => none
    if (names.length != ts.length || names.eraseDups.length != names.length) = true then some none
    else if (vs.all (foldedForSure 8)) = true then some none
    else if (vs.all (constantsAlone 8)) = true then none
    else some (some names)
theorem sw_ok {env : PySem.Env} {sc : Scope} (h1 : env.scope = sc) (h2 : sc.kind = .function) {ts vs : List Expr} {k k2 : Nat} {q q2 : Pos} {r : Option (List Str)} (h : swB sc ts vs = some r) : swappedStores [.Tuple ts k q] (.Tuple vs k2 q2) env = pure r := by
  have hb : env.blockKind = .function := by unfold Env.blockKind; rw [h1, h2]; rfl
  have hk : ∀ x, env.kindOf x = sc.names.lookup x := fun x => by unfold Env.kindOf; rw [h1]
  have hst : (fun (e : Expr) => match e with | .Starred .. => true | _ => false) = isStarE := by
    funext e
    cases e <;> rfl
  unfold swB at h
  unfold swappedStores
  simp only [hb, hk]
  split at h
  · rename_i hc
    cases h
    have : (!(ts.length == 2 || ts.length == 3) || vs.length != ts.length || (ScopeKind.function != ScopeKind.function)) = true := by
      rw [hc]; rfl
    simp only [this, if_true]
  · rename_i hc
    have hc' : (!(ts.length == 2 || ts.length == 3) || vs.length != ts.length) = false := by simpa using hc
    have : (!(ts.length == 2 || ts.length == 3) || vs.length != ts.length || (ScopeKind.function != ScopeKind.function)) = false := by
      rw [hc']; rfl
    simp only [this, Bool.false_eq_true, if_false]
    have hst2 : (vs.any fun (e : Expr) => match e with | .Starred .. => true | _ => false) = vs.any isStarE := by rw [hst]
    split at h
    · rename_i h3
      cases h
      exact (if_pos (by rw [← hst2] at h3; exact h3))
    · rename_i h3
      refine (if_neg (by rw [← hst2] at h3; exact h3)).trans ?_
      simp only at h
      split at h
      · rename_i h4
        cases h
        exact if_pos h4
      · rename_i h4
        refine (if_neg h4).trans ?_
        split at h
        · rename_i h5
          cases h
          exact if_pos h5
        · rename_i h5
          refine (if_neg h5).trans ?_
          split at h
          · cases h
          · rename_i h6
            cases h
            exact if_neg h6
/-- no comprehension -/
def notComp : Expr → Bool
  | .ListComp .. => false
  | .SetComp .. => false
  | .DictComp .. => false
  | _ => true
theorem not_swaps {e : Expr} (h : notComp e = true) (t : Option Expr) (l : Nat) (env : PySem.Env) : swapsWith e t l env = pure false := by
  cases e <;> first | rfl | (cases h; done)
theorem sub_swaps {e o j : Expr} {q : Pos} {l : Nat} {env : PySem.Env} : swapsWithSole [.Subscript o j q] e l env = pure false := by
  cases e <;> rfl
theorem tup_swaps {e : Expr} {ts : List Expr} {k : Nat} {q : Pos} {l : Nat} {env : PySem.Env} : swapsWithSole [.Tuple ts k q] e l env = pure false := by
  cases e <;> rfl
def notTupE : Expr → Bool
  | .Tuple .. => false
  | _ => true
theorem tup_stores {e : Expr} {ts : List Expr} {k : Nat} {q : Pos} {env : PySem.Env} (h : notTupE e = true) : swappedStores [.Tuple ts k q] e env = pure none := by
  cases e <;> first | rfl | (cases h; done)
theorem sub_stores {e o j : Expr} {q : Pos} {env : PySem.Env} : swappedStores [.Subscript o j q] e env = pure none := by
  cases e <;> rfl
abbrev Cs2 := Scope → (Str → Bool) → Stmt → Bool
abbrev CsL := Scope → (Str → Bool) → List Stmt → Bool
/-- y = [..] is stored within the comprehension's block -/
def swLc (sc : Scope) (y : Str) (py : Pos) (scope : Scope) (pos : Pos) : Bool := lclB sc y && (py.line == pos.line) && !(scope.names.any fun (n, k) => n == y && (k == .local || k == .cell))
theorem sw_false {elt : Expr} {gs : List Comprehension} {scope : Scope} {pos py : Pos} {y : Str} {l : Nat} {env : PySem.Env} {sc : Scope} (h1 : env.scope = sc) (h : swLc sc y py scope pos = false) : swapsWith (.ListComp elt gs scope pos) (some (.Name y py)) l env = pure false := by
  unfold swapsWith
  simp only
  have hk : env.kindOf y = sc.names.lookup y := by unfold Env.kindOf; rw [h1]
  have hl : (sc.names.lookup y == some NameKind.local) = lclB sc y := by
    unfold lclB
    cases sc.names.lookup y with
    | none => rfl
    | some k => cases k <;> rfl
  have key : (env.blockKind == .function && env.kindOf y == some .local && py.line == (Expr.ListComp elt gs scope pos).pos.line && !(scope.names.any fun (n, k) => n == y && (k == .local || k == .cell))) = false := by
    rw [hk, hl]
    unfold swLc at h
    show (env.blockKind == .function && lclB sc y && py.line == pos.line && !(scope.names.any fun (n, k) => n == y && (k == .local || k == .cell))) = false
    cases h3 : (env.blockKind == ScopeKind.function) with
    | false => rfl
    | true => simpa using h
  exact congrArg pure key
theorem sw_falseD {kx vx : Expr} {gs : List Comprehension} {scope : Scope} {pos py : Pos} {y : Str} {l : Nat} {env : PySem.Env} {sc : Scope} (h1 : env.scope = sc) (h : swLc sc y py scope pos = false) : swapsWith (.DictComp kx vx gs scope pos) (some (.Name y py)) l env = pure false := by
  unfold swapsWith
  simp only
  have hk : env.kindOf y = sc.names.lookup y := by unfold Env.kindOf; rw [h1]
  have hl : (sc.names.lookup y == some NameKind.local) = lclB sc y := by
    unfold lclB
    cases sc.names.lookup y with
    | none => rfl
    | some k => cases k <;> rfl
  have key : (env.blockKind == .function && env.kindOf y == some .local && py.line == (Expr.DictComp kx vx gs scope pos).pos.line && !(scope.names.any fun (n, k) => n == y && (k == .local || k == .cell))) = false := by
    rw [hk, hl]
    unfold swLc at h
    show (env.blockKind == .function && lclB sc y && py.line == pos.line && !(scope.names.any fun (n, k) => n == y && (k == .local || k == .cell))) = false
    cases h3 : (env.blockKind == ScopeKind.function) with
    | false => rfl
    | true => simpa using h
  exact congrArg pure key
section
variable (C : Cs)
def kExpr (f : Ck) : Cs2 := fun sc fb st => match st with
  | .Expr x _ => notComp x && f sc fb x
  | _ => false
def nameB (sc : Scope) (fb : Str → Bool) (i : Nat) (x : Str) : Bool := decide (C.N[i]? = some x) && locB sc x && (fb x || lclB sc x)
def kAsg (i : Nat) (f : Ck) : Cs2 := fun sc fb st => match st with
  | .Assign [.Name x q] v _ => nameB C sc fb i x && f sc fb v && (notComp v || (match v with
    | .ListComp _ _ scope p => !swLc sc x q scope p
    | .DictComp _ _ _ scope p => !swLc sc x q scope p
    | _ => false))
  | _ => false
/-- y = [..] -/
def kAsgLc (i : Nat) (f : Ck) : Cs2 := fun sc fb st => match st with
  | .Assign [.Name x q] v _ => nameB C sc fb i x && f sc fb v && (match v with
    | .ListComp _ [⟨_, _, _, _⟩] scope p => swLc sc x q scope p
    | _ => false)
  | _ => false
def kSetT (ts : List Tg) (f : Ck) : Cs2 := fun sc fb st => match st with
  | .Assign [.Tuple es _ _] v _ => chkTs C.N sc fb ts es && f sc fb v && notTupE v
  | _ => false
def namesB (sc : Scope) (fb : Str → Bool) : List (Nat × Bool) → List Expr → Bool
  | [], [] => true
  | (i, _) :: is, .Name x _ :: es => nameB C sc fb i x && namesB sc fb is es
  | _, _ => false
def kPar2 (i j : Nat) (n : Nat) (f : CkL) : Cs2 := fun sc fb st => match st with
  | .Assign [.Tuple [.Name x _, .Name y _] _ _] (.Tuple [a, b] _ _) _ => nameB C sc fb i x && nameB C sc fb j y && decide (i ≠ j) && lclB sc x && lclB sc y && f sc fb [a, b] && decide (n = 2)
  | _ => false
def kPar (is : List (Nat × Bool)) (n : Nat) (f : CkL) : Cs2 := fun sc fb st => match st with
  | .Assign [.Tuple ts _ _] (.Tuple vs _ _) _ => match swB sc ts vs with
    | some none => namesB C sc fb is ts && f sc fb vs && decide (n ≤ 1000) && decide (is.length = n)
    | some (some ns) => match ts, vs, is with
      | [.Name x _, .Name y _], [_, _], [(i, _), (j, _)] => decide (ns = [x, y]) && nameB C sc fb i x && nameB C sc fb j y && decide (i ≠ j) && lclB sc x && lclB sc y && f sc fb vs && decide (n = 2)
      | _, _, _ => false
    | none => false
  | _ => false
def kApp (i : Nat) (f : Ck) : Cs2 := fun sc fb st => match st with
  | .Expr (.Call (.Attribute (.Name x _) m apos) [y] [] cpos) _ => decide (C.N[i]? = some x) && visB sc x && okName x && decide (m = "append") && notStar y && (apos.endLine == cpos.line) && f sc fb y
  | _ => false
def kRem (i : Nat) (f : Ck) : Cs2 := fun sc fb st => match st with
  | .Expr (.Call (.Attribute (.Name x _) m apos) [y] [] cpos) _ => decide (C.N[i]? = some x) && visB sc x && okName x && decide (m = "remove") && notStar y && (apos.endLine == cpos.line) && f sc fb y
  | _ => false
def kPut (i : Nat) (f g : Ck) : Cs2 := fun sc fb st => match st with
  | .Assign [.Subscript (.Name x _) j _] v _ => decide (C.N[i]? = some x) && visB sc x && okName x && notSlice j && f sc fb j && g sc fb v
  | _ => false
def kPut2 (i1 : Nat) (f1 : Ck) (i2 : Nat) (f2 : Ck) (f : CkL) : Cs2 := fun sc fb st => match st with
  | .Assign [.Tuple ts _ _] (.Tuple vs _ _) _ => match swB sc ts vs with
    | some none => match ts with
      | [.Subscript (.Name x1 _) j1 _, .Subscript (.Name x2 _) j2 _] => decide (C.N[i1]? = some x1) && visB sc x1 && okName x1 && decide (C.N[i2]? = some x2) && visB sc x2 && okName x2 && notSlice j1 && notSlice j2 && f1 sc fb j1 && f2 sc fb j2 && f sc fb vs
      | _ => false
    | _ => false
  | _ => false
def kRet (f : Ck) : Cs2 := fun sc fb st => match st with
  | .Return (some x) _ => f sc fb x
  | _ => false
def kRetN : Cs2 := fun _ _ st => match st with
  | .Return none _ => true
  | _ => false
def kIf (f : Ck) (g h : CsL) : Cs2 := fun sc fb st => match st with
  | .If x a b _ => f sc fb x && g sc fb a && h sc fb b
  | _ => false
def kFor (t : Tg) (k : Sk) (f : CkL) (g : CsL) : Cs2 := fun sc fb st => match st with
  | .For tg iter body [] _ => (match srcE C sc tg k iter with | some xs => f sc fb xs | none => false) && notSet iter && chkT C.N sc fb t tg && g sc fb body
  | _ => false
def kWhile (f : Ck) (g : CsL) : Cs2 := fun sc fb st => match st with
  | .While x body [] _ => f sc fb x && g sc fb body
  | _ => false
def kPass : Cs2 := fun _ _ st => match st with
  | .Pass _ => true
  | _ => false
def kBrk : Cs2 := fun _ _ st => match st with
  | .Break _ => true
  | _ => false
def kCnt : Cs2 := fun _ _ st => match st with
  | .Continue _ => true
  | _ => false
def kSetx (i : Nat) (f : Ck) : Cs2 := fun sc fb st => match st with
  | .Assign [.Name x _] v _ => nameB C sc fb i x && f sc fb v
  | _ => false
def kExprx (f : Ck) : Cs2 := fun sc fb st => match st with
  | .Expr x _ => f sc fb x
  | _ => false
def kRaise (c : Nat) : Cs2 := fun sc _ st => match st with
  | .Raise (some (.Call (.Name x _) [] [] _)) none _ => xcB C c x false && gloB sc x && okName x
  | _ => false
def kRaise1 (c : Nat) (f : Ck) : Cs2 := fun sc fb st => match st with
  | .Raise (some (.Call (.Name x _) [a] [] _)) none _ => xcB C c x true && gloB sc x && okName x && decide (("super" : Str) ∈ C.free) && notStar a && f sc fb a
  | _ => false
def kTry (b : TB) (hs : List Hd) : Cs2 := fun sc fb st => match st with
  | .Try [st] (hd :: hds) [] [] _ => chkTB C b sc fb st && hdsB C sc fb hs (hd :: hds)
  | _ => false
mutual
def chkS : S → Cs2
  | .bad => fun _ _ _ => true
  | .setx i _ e => kSetx C i (chkX C e)
  | .exprx e => kExprx (chkX C e)
  | .retx e => kRet (chkX C e)
  | .raise c => kRaise C c
  | .raise1 c e => kRaise1 C c (chkE C e)
  | .tryx b hs => kTry C b hs
  | .expr e => kExpr (chkE C e)
  | .set i _ e => match e with
    | .lc own t k src tests elt => fun sc fb st => kAsg C i (chkE C (.lc own t k src tests elt)) sc fb st || kAsgLc C i (chkE C (.lc own t k src tests elt)) sc fb st
    | e => kAsg C i (chkE C e)
  | .setT t e => match t with
    | .tp ts => kSetT C ts (chkE C e)
    | _ => fun _ _ _ => false
  | .par is es => kPar C is es.length (chkL C es)
  | .app i e => kApp C i (chkE C e)
  | .rem i e => kRem C i (chkE C e)
  | .ext _ _ => fun _ _ _ => false
  | .put i j e => kPut C i (chkE C j) (chkE C e)
  | .put2 i1 j1 i2 j2 es => kPut2 C i1 (chkE C j1) i2 (chkE C j2) (chkL C es)
  | .ret e => kRet (chkE C e)
  | .retN => kRetN
  | .iff c a b => kIf (chkE C c) (chkB a) (chkB b)
  | .for t k src body => kFor C t k (chkL C src) (chkB body)
  | .while c body => kWhile (chkE C c) (chkB body)
  | .pass => kPass
  | .brk => kBrk
  | .cnt => kCnt
def chkB : List S → CsL
  | [] => fun _ _ xs => xs.isEmpty
  | s :: r => fun sc fb xs => match xs with
    | [] => false
    | x :: xs => chkS s sc fb x && chkB r sc fb xs
end
end
end Ra


set_option Elab.async false
set_option linter.all false
set_option autoImplicit false
set_option maxRecDepth 100000
/-! list.remove of data -/
namespace Ra
open PySem PySem.Spec PyProof.Rows L2
section
variable {X : Cx}
def rRemD (K : PySem.W.Frag) : V → List V → Hp → VK → Prop := fun x xs H Q => ∃ (a : Addr) (y : V) (d : PyData) (ws : List V) (ds : List PyData) (j : Nat) (z : PyData), x = V.ref a ∧ xs = [y] ∧ H a = some (.lst ws) ∧ DpAll K H ws ds ∧ Dp K H y d ∧
  SeqAt.shaped (.list ds) = true ∧ SeqAt.shaped d = true ∧ ds[j]? = some z ∧ PyData.eqv z d = true ∧ (∀ (m : Nat) (z' : PyData), m < j → ds[m]? = some z' → PyData.eqv z' d = false) ∧ Q .non (upd H a (.lst (ws.eraseIdx j)))
theorem mt_remD (hu : X.A.units + 65 < cLine) : MtM X "list.remove" (rRemD X.K) := by
  intro pins s σ H x xs v us Q I rx rxs h
  obtain ⟨a, y, d, ws, ds, j, z, rfl, rfl, hH, ha, hy, sl, sd, hz, hzj, hno, q⟩ := h
  cases rx
  obtain ⟨uy, rfl, ry⟩ := rxs.one
  obtain ⟨bs, r1⟩ := Dp.reads I d y uy hy ry
  have hxs : PyData.canLayAll0 ds = true := SeqAt.canLay_of_shaped sl
  have hroom : X.A.units + 1 + min (PyData.depthAll ds) d.depth < cLine := room_in_shaped sd hu
  obtain ⟨zz, its, n, rv, hl, ho⟩ := I.lstM hH
  obtain ⟨as, h4⟩ := Dp.readsAll I ds _ its ha rv
  have hn : its.length = ds.length := SeqAt.ReadsAll.length ds its as h4
  have hmap : its.map (SeqAt.readOf s.heap) = ds := SeqAt.readsAll_map ds its as hxs h4
  obtain ⟨hjd, _⟩ := List.getElem?_eq_some_iff.mp hz
  have hjl : j < its.length := by omega
  have hj : j < its.toArray.size := by simpa using hjl
  have at_ : ∀ (m : Nat) (hm : m < its.toArray.size) (z' : PyData), ds[m]? = some z' → SeqAt.readOf s.heap its.toArray[m] = z' := by
    intro m hm z' hz'
    have hml : m < its.length := by simpa using hm
    rw [← hmap, List.getElem?_map, List.getElem?_eq_getElem hml] at hz'
    have e1 : SeqAt.readOf s.heap its[m] = z' := Option.some.inj (show some (SeqAt.readOf s.heap its[m]) = some z' from hz')
    simpa using e1
  refine call_meets PySem.F.slot_list_remove ⟨_, ho, rfl⟩ PySem.F.entry_list_remove (PySem.F.args_list_remove_2 _ _)
    (SeqAt.list_removeAt a its.toArray n none #[] uy (fun u => PyData.eqv (SeqAt.readOf s.heap u) d) j hj ?_ ?_ (by rw [List.size_toArray, ← hl]; exact zz)) ⟨ho, SeqAt.items_eqAt (vs := its.toArray) (show ReadsAll s.heap its.toArray.toList ds as from h4) r1 hxs (SeqAt.canLay_of_shaped sd) hroom, ?_⟩
  · show PyData.eqv (SeqAt.readOf s.heap its.toArray[j]) d = true
    rw [at_ j hj z hz]
    exact hzj
  · intro m hm hmj
    have hmd : m < ds.length := by omega
    have hz' : ds[m]? = some ds[m] := List.getElem?_eq_getElem hmd
    show PyData.eqv (SeqAt.readOf s.heap its.toArray[m]) d = false
    rw [at_ m hm _ hz']
    exact hno m _ hmj hz'
  · refine ⟨.non, _, I.lset (its' := its.eraseIdx j) hH ho ?_ (rv.eraseIdx j) ?_, rfl, q⟩
    · show its.toArray.eraseIdxIfInBounds j = (its.eraseIdx j).toArray
      rw [List.eraseIdxIfInBounds_toArray]
    · exact Nat.le_trans (List.length_eraseIdx_le _ _) zz
variable {Z : Zx} {e : Expr} {p : P} {pos : Pos}
theorem ps_remR {i : Nat} {x : Str} {q apos cpos : Pos} (hu : X.A.units + 200 < cLine) (hN : X.N[i]? = some x) (hv : Vis X.env.scope x) (hd : (x == ("__debug__" : Str)) = false) (hcd : (x == ("__classdict__" : Str)) = false) (ha : PE X e (tE X.K p.v)) (ns : notStar e = true)
    (hl : (apos.endLine == cpos.line) = true) : PS X (.Expr (.Call (.Attribute (.Name x q) "remove" apos) [e] [] cpos) pos) (tS X.K Z (xRem i p)) := by
  refine PS.weak (ps_expr (pe_bm PySem.F.plainAttrs_list PySem.F.slot_list_remove PySem.F.type_list_remove (mt_remD (by omega)) (pe_var hN hv hd hcd) (pa_cons ha pa_nil (star1 ns _ _)) rfl (few_ok ns _) hl (star1 ns _ _) rfl) rfl) fun D σ H ⟨env, m, g, hs, hm, hz⟩ => ?_
  obtain ⟨k, hk, hz⟩ := onCell_ok hz
  obtain ⟨a, h1, h2, c, vs, h3, h4, h5⟩ := cell_at hs hm hk
  refine ⟨.ref a, h1, .inl ⟨rfl, vs, .inl (.inl h4)⟩, env, m, g, hs, hm, (Rx.bindX hz).mono fun v m1 g1 H1 e1 s1 z1 y ry => ?_⟩
  obtain ⟨g2, s2, e2, r2⟩ := s1.hold ry
  obtain ⟨dj, hdj, z2⟩ := Rx.rdBind (z1.ext e2)
  have rj := s2.read (nf_ne v) r2 hdj
  have hs2 := (hs.ext e1).ext e2
  obtain ⟨k', a', c', vs', ys, k1, k2, k3, k4, k5, k6, k7, k8, k9⟩ := upCell_ok hs2 s2 z2
  rw [h1] at k2
  cases k2
  unfold remD at k8
  split at k8
  · rename_i hdep
    obtain ⟨j, hj, e⟩ := Option.map_eq_some_iff.mp k8
    subst e
    obtain ⟨n, z, rfl, f1, f2, f3⟩ := lFind_ok hj
    have rl : Rr X.K g2.F H1 (.ref a) (.list c'.xs) := ⟨a, vs', rfl, .inl k6, k7⟩
    have hz : (vs'.eraseIdx n).length ≤ sizeLine := Nat.le_trans (List.length_eraseIdx_le _ _) (s2.sz a vs' (.inl k6))
    rw [Nat.zero_add] at k9
    obtain ⟨s3, e3⟩ := up_cell (ws := vs'.eraseIdx n) (ys := c'.xs.eraseIdx n) s2 k4 k3 k5 (k7.erase n) hz
    refine ⟨a, y, dj, vs', c'.xs, n, z, rfl, rfl, k6, RpAll.dp _ k7, rj.dp, ?_, ?_, f1, f2, f3, k9 _ _ e3 s3 σ (hs2.ext e3)⟩
    · exact Bool.and_eq_true_iff.mpr ⟨rl.lay, decide_eq_true hdep.2⟩
    · exact Bool.and_eq_true_iff.mpr ⟨rj.lay, decide_eq_true hdep.1⟩
  · cases k8
end
end Ra


set_option Elab.async false
set_option linter.all false
set_option autoImplicit false
set_option maxRecDepth 100000
/-! a[i], b[j] = x, y -/
namespace Ra
open PySem PySem.Spec PyProof.Rows L2
theorem bind_assoc {α β γ : Type} (r : Res α) (f : α → Mem → Res β) (k : β → Mem → Res γ) : (r.bind f).bind k = r.bind fun a m => (f a m).bind k := by
  cases r <;> rfl
section
variable {X : Cx} {Z : Zx}
theorem upCell_okB {K : PySem.W.Frag} {env : Env} {σ : L2.St} {m : Mem} {g : G} {H : Hp} {i : Nat} {f : List PyData → Option (List PyData)} {k : Flow → Mem → Res Flow} {Q : Flow → Mem → G → Hp → Prop} (hs : Sg K env σ g H) (S : SimM K m g H) (hz : Rx K Z ((upCell env i f m).bind k) g H Q) :
    ∃ kk a c vs ys, getV env i = some (.mr kk) ∧ σ[i]? = some (some (.ref a)) ∧ g.ad[kk]? = some a ∧ m[kk]? = some c ∧ c.fz = false ∧ H a = some (.lst vs) ∧ RpAll K g.F H vs c.xs ∧ f c.xs = some ys ∧ Rx K Z (k (.next env) (m.set kk ⟨false, ys⟩)) g H Q := by
  have h0 : Rx K Z (upCell env i f m) g H (fun _ _ _ _ => True) := by
    cases h : upCell env i f m with
    | ok a b => intro g' H' e s; trivial
    | fail => rw [h] at hz; exact hz.elim
    | exc a b => rw [h] at hz; exact hz
  obtain ⟨kk, a, c, vs, ys, k1, k2, k3, k4, k5, k6, k7, k8, _⟩ := upCell_ok hs S h0
  refine ⟨kk, a, c, vs, ys, k1, k2, k3, k4, k5, k6, k7, k8, ?_⟩
  have e : upCell env i f m = .ok (.next env) (m.set kk ⟨false, ys⟩) := by
    unfold upCell
    rw [k1]
    simp only
    rw [k4]
    simp only [k5, if_true, k8]
  rw [e] at hz
  exact hz
theorem putX_ok {env : Env} {σ : L2.St} {m : Mem} {g : G} {H : Hp} {i : Nat} {pj : P} {v : V} {d : PyData} {k : Flow → Mem → Res Flow} {QQ : Flow → Mem → G → Hp → Prop} {R : L2.St → Hp → Prop} (hs : Sg X.K env σ g H) (S : SimM X.K m g H) (r : Rp X.K g.F H v d)
    (hz : Rx X.K Z ((putX i pj d env m).bind k) g H QQ) (hk : ∀ m' g' H', Ext g H g' H' → SimM X.K m' g' H' → Rx X.K Z (k (.next env) m') g' H' QQ → R σ H') : gSub (tVar i) (tE X.K pj.v) rSetL v σ H R := by
  unfold putX at hz
  have hc : ∃ kk, getV env i = some (.mr kk) := by
    cases h : getV env i with
    | none => simp only [onCell, h] at hz; exact hz.elim
    | some vv =>
      cases vv with
      | mr kk => exact ⟨kk, rfl⟩
      | d _ => simp only [onCell, h] at hz; exact hz.elim
      | fr _ => simp only [onCell, h] at hz; exact hz.elim
      | dv _ => simp only [onCell, h] at hz; exact hz.elim
  obtain ⟨kk, hkk⟩ := hc
  simp only [onCell, hkk] at hz
  rw [bind_assoc] at hz
  obtain ⟨a, h1, h2, c, vs, h3, h4, h5⟩ := cell_at hs S hkk
  refine ⟨.ref a, h1, env, m, g, hs, S, (Rx.bindX hz).mono fun vj m3 g3 H3 e3 s3 z3 w rw_ => ?_⟩
  obtain ⟨g4, s4, e4, r4⟩ := s3.hold rw_
  rw [bind_assoc] at z3
  obtain ⟨dj, hdj, z4⟩ := Rx.rdBind (z3.ext e4)
  have rj := s4.read (nf_ne vj) r4 hdj
  have hs4 := (hs.ext e3).ext e4
  obtain ⟨k', a', c', vs', ys, k1, k2, k3, k4, k5, k6, k7, k8, k9⟩ := upCell_okB hs4 s4 z4
  rw [h1] at k2
  cases k2
  unfold putD at k8
  split at k8
  · rename_i n
    obtain ⟨n', hn, e⟩ := Option.map_eq_some_iff.mp k8
    subst e
    have hz : (vs'.set n' v).length ≤ sizeLine := by rw [List.length_set]; exact s4.sz a vs' (.inl k6)
    obtain ⟨s5, e5⟩ := up_cell (ws := vs'.set n' v) (ys := c'.xs.set n' d) s4 k4 k3 k5 (k7.set n' (Rp.ext (e3.trans e4) _ r)) hz
    exact ⟨a, vs', n, n', rfl, rj.int, k6, by rw [k7.length]; exact hn, hk _ _ _ ((e3.trans e4).trans e5) s5 (k9.ext e5)⟩
  · cases k8
variable {ps : List P} {pos : Pos}
theorem ps_put2R {i1 i2 : Nat} {x1 x2 : Str} {q1 q2 p1 p2 : Pos} {j1 j2 : Expr} {pj1 pj2 : P} {vs : List Expr} {k k2 : Nat} {q qq : Pos} (hc : X.calm = true) (hN1 : X.N[i1]? = some x1) (hv1 : Vis X.env.scope x1) (hd1 : (x1 == ("__debug__" : Str)) = false) (hcd1 : (x1 == ("__classdict__" : Str)) = false)
    (hN2 : X.N[i2]? = some x2) (hv2 : Vis X.env.scope x2) (hd2 : (x2 == ("__debug__" : Str)) = false) (hcd2 : (x2 == ("__classdict__" : Str)) = false)
    (ha : PA X vs (tIt X.K (cItems ps))) (hj1 : PE X j1 (tE X.K pj1.v)) (hj2 : PE X j2 (tE X.K pj2.v)) (hs1 : notSlice j1 = true) (hs2 : notSlice j2 = true)
    (hw : swappedStores [.Tuple [.Subscript (.Name x1 q1) j1 p1, .Subscript (.Name x2 q2) j2 p2] k q] (.Tuple vs k2 qq) X.env = pure none) :
    PS X (.Assign [.Tuple [.Subscript (.Name x1 q1) j1 p1, .Subscript (.Name x2 q2) j2 p2] k q] (.Tuple vs k2 qq) pos) (tS X.K Z (xPut2 i1 pj1 i2 pj2 ps)) := by
  have g1 : PG X (.Subscript (.Name x1 q1) j1 p1) (gSub (tVar i1) (tE X.K pj1.v) rSetL) := pg_sub (pe_var hN1 hv1 hd1 hcd1) hj1 set_list (by intro v; cases j1 <;> first | rfl | (cases hs1; done))
  have g2 : PG X (.Subscript (.Name x2 q2) j2 p2) (gSub (tVar i2) (tE X.K pj2.v) rSetL) := pg_sub (pe_var hN2 hv2 hd2 hcd2) hj2 set_list (by intro v; cases j2 <;> first | rfl | (cases hs2; done))
  refine PS.weak (ps_asg (pe_tup ha) (pg_tup (n := 2) hc (pgs_cons g1 (pgs_cons g2 pgs_nil))) rfl hw rfl) fun D σ H h => ?_
  obtain ⟨env, m, g, hs, hm, hz⟩ := h
  refine ⟨env, m, g, hs, hm, (Rx.bindX hz).mono fun ds m1 g1 H1 e1 s1 z1 xs rxs => ?_⟩
  match ds, xs, rxs, z1 with
  | [d1, d2], [v1, v2], .cons r1 (.cons r2 .nil), z1 =>
    refine ⟨by rw [sizeLine_eq]; show 2 ≤ 16777216; decide, fun pp hp => ⟨pp, [v1, v2], rfl, .inl (.inl upd_same), rfl, ?_⟩⟩
    have e2 := ext_new (o := .tup [v1, v2]) s1 hp
    have s2 := sim_new s1 hp (o := .tup [v1, v2]) (by show 2 ≤ sizeLine; rw [sizeLine_eq]; decide)
    refine ⟨v1, [v2], rfl, putX_ok ((hs.ext e1).ext e2) s2 (Rp.ext e2 _ r1) (z1.ext e2) fun m' g' H' e' s' z' => ⟨v2, [], rfl, ?_⟩⟩
    have z'' : Rx X.K Z ((putX i2 pj2 d2 env m').bind fun f m => .ok f m) g' H' (FlowQ X.K D) := by
      have : ((putX i2 pj2 d2 env m').bind fun f m => .ok f m) = putX i2 pj2 d2 env m' := by cases putX i2 pj2 d2 env m' <;> rfl
      rw [this]
      exact z'
    refine putX_ok (((hs.ext e1).ext e2).ext e') s' (Rp.ext (e2.trans e') _ r2) z'' fun m3 g3 H3 e3 s3 z3 => ⟨rfl, ?_⟩
    exact z3 _ _ (Ext.refl _ _) s3 _ ((((hs.ext e1).ext e2).ext e').ext e3)
end
end Ra


set_option Elab.async false
set_option linter.all false
set_option autoImplicit false
set_option maxRecDepth 100000
/-! statements and defs that are checked are sound -/
namespace Ra
open PySem PySem.Spec PyProof.Rows L2
abbrev SS (C : Cs) (call : Call) (f : Cs2) (x : EX) : Prop := ∀ (st : Stmt) (sc : Scope) (fb : Str → Bool) (X : Cx) (Z : Zx), GooS C call sc fb X Z → f sc fb st = true → PS X st (tS X.K Z x)
abbrev SB (C : Cs) (call : Call) (f : CsL) (x : EX) : Prop := ∀ (st : List Stmt) (sc : Scope) (fb : Str → Bool) (X : Cx) (Z : Zx), GooS C call sc fb X Z → f sc fb st = true → PSs X st (tS X.K Z x)
section
variable {C : Cs} {call : Call}
theorem name_ok {X : Cx} {sc : Scope} {fb : Str → Bool} (G : Goo C call sc fb X) {i : Nat} {x : Str} (h : nameB C sc fb i x = true) : X.N[i]? = some x ∧ L2.Loc X.env.scope x ∧ (X.fn x = true ∨ X.env.scope.names.lookup x = some .local) := by
  unfold nameB at h
  simp only [Bool.and_eq_true, decide_eq_true_eq] at h
  refine ⟨by rw [G.N]; exact h.1.1, loc_ok G h.1.2, ?_⟩
  rcases Bool.or_eq_true_iff.mp h.2 with q | q
  · exact .inl (by rw [G.fn]; exact q)
  · exact .inr (lcl_ok G q)
theorem x_expr {f : Ck} {p : P} (hf : SE C call f p) : SS C call (kExpr f) (fun env m => (p.v env m).noX.bind fun _ m1 => .ok (.next env) m1) := by
  intro st sc fb X Z GS h
  have G := GS.goo
  unfold kExpr at h
  split at h
  · obtain ⟨h1, h2⟩ := Bool.and_eq_true_iff.mp h
    exact ps_exprR (hf _ sc fb X G h2).1 (not_swaps h1 _ _ _)
  · cases h
theorem x_asg {f : Ck} {p : P} (i : Nat) (c : Bool) (hf : SE C call f p) : SS C call (kAsg C i f) (xSet i c p) := by
  intro st sc fb X Z GS h
  have G := GS.goo
  unfold kAsg at h
  split at h
  · simp only [Bool.and_eq_true] at h
    obtain ⟨⟨h1, h2⟩, h3⟩ := h
    obtain ⟨a, b, d⟩ := name_ok G h1
    refine ps_setR (by rw [G.N]; exact G.nd) a b d (hf _ sc fb X G h2).1 ?_
    rcases Bool.or_eq_true_iff.mp h3 with q | q
    · exact not_swaps q _ _ _
    · split at q
      · exact sw_false G.hsc (by simpa using q)
      · exact sw_falseD G.hsc (by simpa using q)
      · cases q
  · cases h
theorem x_asgLc {f g : CkL} {hh : Ck} {src tests : List P} {elt : P} (i : Nat) (c : Bool) (own : List Nat) (t : Tg) (k : Sk) (hf : SL C call f src) (hg : SL C call g tests) (he : SE C call hh elt) : SS C call (kAsgLc C i (kLc C own t k f g hh)) (xSet i c (ofV (cLc own t k src tests elt))) := by
  intro st sc fb X Z GS h
  have G := GS.goo
  unfold kAsgLc at h
  split at h
  · rename_i xx qq vv spos
    simp only [Bool.and_eq_true] at h
    obtain ⟨⟨h1, h2⟩, h3⟩ := h
    obtain ⟨a, b, d⟩ := name_ok G h1
    split at h3
    · rename_i el tg iter ifs asy scope pos
      obtain ⟨k0, k1, k2, k3, k4, k5, k6⟩ := lc_facts G hf hg he h2
      subst k0
      unfold swLc at h3
      simp only [Bool.and_eq_true, Bool.not_eq_true'] at h3
      have hl := lcl_ok G h3.1.1
      have q := ps_setLcR (Z := Z) (pos := pos) (spos := spos) (c := c) G.calm (by rw [G.N]; exact G.nd) a hl (sw_true (by rw [G.hsc]; exact G.kind) hl h3.1.2 h3.2) k1 k2 (fun s H a cl fp => (k6 s H a cl fp).1) (fun s H a cl fp => (k6 s H a cl fp).2.1) (fun s H a cl fp => (k6 s H a cl fp).2.2) k3 k4
      rw [k5] at q
      exact q
    · cases h3
  · cases h
theorem x_setT {f : Ck} {p : P} (ts : List Tg) (hf : SE C call f p) : SS C call (kSetT C ts f) (xSetT (.tp ts) p) := by
  intro st sc fb X Z GS h
  have G := GS.goo
  unfold kSetT at h
  split at h
  · simp only [Bool.and_eq_true] at h
    obtain ⟨⟨h1, h2⟩, h3⟩ := h
    obtain ⟨a, b, c⟩ := soundTs G ts _ h1
    exact ps_setTR (pg_tupR G.calm a b c) (hf _ sc fb X G h2).1 (tup_stores h3) tup_swaps
  · cases h
theorem names_ok {X : Cx} {sc : Scope} {fb : Str → Bool} (G : Goo C call sc fb X) : ∀ {is : List (Nat × Bool)} {es : List Expr}, namesB C sc fb is es = true → PGs X es (gSets is) ∧ es.all notStar = true ∧ es.length = is.length
  | [], [], _ => ⟨pgs_nil, rfl, rfl⟩
  | [], _ :: _, h => by simp [namesB] at h
  | (i, c) :: is, [], h => by simp [namesB] at h
  | (i, c) :: is, e :: es, h => by
    cases e with
    | Name x q =>
      simp only [namesB, Bool.and_eq_true] at h
      obtain ⟨a, b, d⟩ := name_ok G h.1
      obtain ⟨k1, k2, k3⟩ := names_ok G h.2
      exact ⟨pgs_cons (pg_name (by rw [G.N]; exact G.nd) a b d) k1 rfl, by simp [notStar, k2], by simp [k3]⟩
    | _ => simp [namesB] at h
theorem AllP.par {X : Cx} : ∀ {es : List Expr} {ps : List P}, AllP X es ps → ∀ {is : List (Nat × Bool)}, is.length = ps.length → PA X es (tPv X.K is ps)
  | _, _, .nil, [], _ => pa_par_nil
  | _, _, .nil, _ :: _, h => by simp at h
  | _, _, .cons _ _ _ _, [], h => by simp at h
  | _, _, .cons a b c d, (i, cc) :: is, h => pa_par_cons a (d.par (by simpa using h)) c
theorem x_par {f : CkL} {ps : List P} {n : Nat} (is : List (Nat × Bool)) (hf : SL C call f ps) (hn : ps.length = n) : SS C call (kPar C is n f) (xPar is ps) := by
  intro st sc fb X Z GS h
  have G := GS.goo
  unfold kPar at h
  split at h
  · split at h
    · rename_i hsw
      simp only [Bool.and_eq_true, decide_eq_true_eq] at h
      obtain ⟨⟨⟨h1, h2⟩, h3⟩, h4⟩ := h
      obtain ⟨a, b, c⟩ := names_ok G h1
      have ha := hf _ sc fb X G h2
      exact ps_parNR G.calm a b c (by rw [ha.len, hn]; exact h3) (ha.par (by rw [hn]; exact h4)) (by rw [h4]; exact h3) (sw_ok G.hsc G.kind hsw)
    · rename_i ns hsw
      split at h
      · simp only [Bool.and_eq_true, decide_eq_true_eq] at h
        obtain ⟨⟨⟨⟨⟨⟨⟨h0, h1⟩, h2⟩, h3⟩, h4⟩, h5⟩, h6⟩, h7⟩ := h
        subst h0
        obtain ⟨a1, a2, a3⟩ := name_ok G h1
        obtain ⟨b1, b2, b3⟩ := name_ok G h2
        have ha := hf _ sc fb X G h6
        exact ps_par2R G.calm (by rw [G.N]; exact G.nd) a1 b1 h3 (lcl_ok G h4) (lcl_ok G h5) (ha.par (by rw [hn, h7]; rfl)) (sw_ok G.hsc G.kind hsw)
      · cases h
    · cases h
  · cases h
theorem x_app {f : Ck} {p : P} (i : Nat) (hf : SE C call f p) : SS C call (kApp C i f) (xApp i p) := by
  intro st sc fb X Z GS h
  have G := GS.goo
  unfold kApp at h
  split at h
  · simp only [Bool.and_eq_true, decide_eq_true_eq] at h
    obtain ⟨⟨⟨⟨⟨⟨h1, h2⟩, h3⟩, h4⟩, h5⟩, h6⟩, h7⟩ := h
    obtain ⟨o1, o2, o3⟩ := okName_ok h3
    subst h4
    exact ps_appR (by rw [G.N]; exact h1) (vis_ok G h2) o1 o2 (hf _ sc fb X G h7).1 h5 h6
  · cases h
theorem x_rem {f : Ck} {p : P} (i : Nat) (hf : SE C call f p) : SS C call (kRem C i f) (xRem i p) := by
  intro st sc fb X Z GS h
  have G := GS.goo
  unfold kRem at h
  split at h
  · simp only [Bool.and_eq_true, decide_eq_true_eq] at h
    obtain ⟨⟨⟨⟨⟨⟨h1, h2⟩, h3⟩, h4⟩, h5⟩, h6⟩, h7⟩ := h
    obtain ⟨o1, o2, o3⟩ := okName_ok h3
    subst h4
    exact ps_remR G.units (by rw [G.N]; exact h1) (vis_ok G h2) o1 o2 (hf _ sc fb X G h7).1 h5 h6
  · cases h
theorem x_put2 {f1 f2 : Ck} {f : CkL} {p1 p2 : P} {ps : List P} (i1 i2 : Nat) (h1 : SE C call f1 p1) (h2 : SE C call f2 p2) (hf : SL C call f ps) : SS C call (kPut2 C i1 f1 i2 f2 f) (xPut2 i1 p1 i2 p2 ps) := by
  intro st sc fb X Z GS h
  have G := GS.goo
  unfold kPut2 at h
  split at h
  · split at h
    · rename_i hsw
      split at h
      · simp only [Bool.and_eq_true, decide_eq_true_eq] at h
        obtain ⟨⟨⟨⟨⟨⟨⟨⟨⟨⟨a1, a2⟩, a3⟩, b1⟩, b2⟩, b3⟩, c1⟩, c2⟩, d1⟩, d2⟩, d3⟩ := h
        obtain ⟨o1, o2, o3⟩ := okName_ok a3
        obtain ⟨u1, u2, u3⟩ := okName_ok b3
        exact ps_put2R G.calm (by rw [G.N]; exact a1) (vis_ok G a2) o1 o2 (by rw [G.N]; exact b1) (vis_ok G b2) u1 u2 (hf _ sc fb X G d3).items (h1 _ sc fb X G d1).1 (h2 _ sc fb X G d2).1 c1 c2 (sw_ok G.hsc G.kind hsw)
      · cases h
    · cases h
  · cases h
theorem x_put {f g : Ck} {pj p : P} (i : Nat) (hf : SE C call f pj) (hg : SE C call g p) : SS C call (kPut C i f g) (xPut i pj p) := by
  intro st sc fb X Z GS h
  have G := GS.goo
  unfold kPut at h
  split at h
  · simp only [Bool.and_eq_true, decide_eq_true_eq] at h
    obtain ⟨⟨⟨⟨⟨h1, h2⟩, h3⟩, h4⟩, h5⟩, h6⟩ := h
    obtain ⟨o1, o2, o3⟩ := okName_ok h3
    exact ps_putR (by rw [G.N]; exact h1) (vis_ok G h2) o1 o2 (hg _ sc fb X G h6).1 (hf _ sc fb X G h5).1 h4 sub_swaps sub_stores
  · cases h
theorem x_ret {f : Ck} {p : P} (hf : SE C call f p) : SS C call (kRet f) (xRet p) := by
  intro st sc fb X Z GS h
  have G := GS.goo
  unfold kRet at h
  split at h
  · exact ps_retR (hf _ sc fb X G h).1
  · cases h
theorem x_if {f : Ck} {g k : CsL} {p : P} {a b : EX} (hf : SE C call f p) (hg : SB C call g a) (hk : SB C call k b) : SS C call (kIf f g k) (xIf p a b) := by
  intro st sc fb X Z GS h
  have G := GS.goo
  unfold kIf at h
  split at h
  · simp only [Bool.and_eq_true] at h
    obtain ⟨⟨h1, h2⟩, h3⟩ := h
    exact ps_ifR (hf _ sc fb X G h1).2 (hg _ sc fb X Z GS h2) (hk _ sc fb X Z GS h3)
  · cases h
theorem x_for {f : CkL} {g : CsL} {ps : List P} {b : EX} (t : Tg) (k : Sk) (hf : SL C call f ps) (hg : SB C call g b) : SS C call (kFor C t k f g) (xFor t k ps b) := by
  intro st sc fb X Z GS h
  have G := GS.goo
  unfold kFor at h
  split at h
  · simp only [Bool.and_eq_true] at h
    obtain ⟨⟨⟨h1, h2⟩, h3⟩, h4⟩ := h
    split at h1
    · rename_i xs hx
      exact ps_forR GS.wx.choose_spec.2.po G.calm (src_ok G hx (hf _ sc fb X G h1)) (soundT G t _ h3) (hg _ sc fb X Z GS h4) h2
    · cases h1
  · cases h
theorem x_while {f : Ck} {g : CsL} {p : P} {b : EX} (n : Nat) (hf : SE C call f p) (hg : SB C call g b) : SS C call (kWhile f g) (whileLoop p b n) := by
  intro st sc fb X Z GS h
  have G := GS.goo
  unfold kWhile at h
  split at h
  · simp only [Bool.and_eq_true] at h
    exact ps_whileR GS.wx.choose_spec.2.po (hf _ sc fb X G h.1).2 (hg _ sc fb X Z GS h.2)
  · cases h
variable (wf : Nat)
mutual
theorem soundS : ∀ s : S, SS C call (chkS C s) (exS call wf s)
  | .bad => fun st sc fb X Z GS h => ps_badR st
  | .expr e => x_expr (soundE e)
  | .setx i c e => fun st sc fb X Z GS h => by
    obtain ⟨E, rfl, A⟩ := GS.wx
    have h' : kSetx C i (chkX C e) sc fb st = true := h
    unfold kSetx at h'
    split at h'
    · simp only [Bool.and_eq_true] at h'
      have h1 := h'.1
      unfold nameB at h1
      simp only [Bool.and_eq_true, decide_eq_true_eq] at h1
      exact ps_setxR GS.goo A.tk h1.1.1 h1.1.2 h1.2 h'.2
    · cases h'
  | .exprx e => fun st sc fb X Z GS h => by
    obtain ⟨E, rfl, A⟩ := GS.wx
    have h' : kExprx (chkX C e) sc fb st = true := h
    unfold kExprx at h'
    split at h'
    · exact ps_exprxR GS.goo A.tk h'
    · cases h'
  | .retx e => fun st sc fb X Z GS h => by
    obtain ⟨E, rfl, A⟩ := GS.wx
    have h' : kRet (chkX C e) sc fb st = true := h
    unfold kRet at h'
    split at h'
    · exact ps_retxR GS.goo A.tk h'
    · cases h'
  | .raise c => fun st sc fb X Z GS h => by
    obtain ⟨E, rfl, A⟩ := GS.wx
    have h' : kRaise C c sc fb st = true := h
    unfold kRaise at h'
    split at h'
    · simp only [Bool.and_eq_true] at h'
      exact ps_raiseR GS.goo A.tk h'.1.1 h'.1.2 h'.2
    · cases h'
  | .raise1 c e => fun st sc fb X Z GS h => by
    obtain ⟨E, rfl, A⟩ := GS.wx
    have h' : kRaise1 C c (chkE C e) sc fb st = true := h
    unfold kRaise1 at h'
    split at h'
    · simp only [Bool.and_eq_true, decide_eq_true_eq] at h'
      obtain ⟨⟨⟨⟨⟨h1, h2⟩, h3⟩, h4⟩, h5⟩, h6⟩ := h'
      exact ps_raise1R GS.goo A.tk h1 h2 h3 (GS.goo.free _ h4) (soundE e _ sc fb X GS.goo h6).1 h5
    · cases h'
  | .tryx b hd => fun st sc fb X Z GS h => by
    obtain ⟨E, rfl, A⟩ := GS.wx
    have h' : kTry C b hd sc fb st = true := h
    unfold kTry at h'
    split at h'
    · simp only [Bool.and_eq_true] at h'
      exact ps_tryR GS.goo A h'.1 h'.2
    · cases h'
  | .set i c e => by
    cases e with
    | lc own t k src tests elt =>
      intro st sc fb X Z GS h
      rcases Bool.or_eq_true_iff.mp h with h | h
      · exact x_asg i c (soundE (.lc own t k src tests elt)) st sc fb X Z GS h
      · exact x_asgLc i c own t k (soundL src) (soundL tests) (soundE elt) st sc fb X Z GS h
    | _ => exact x_asg i c (soundE _)
  | .setT t e => by
    cases t with
    | tp ts => exact x_setT ts (soundE e)
    | nm i => exact fun st sc fb X Z GS h => by cases h
  | .par is es => x_par is (soundL es) (sems_len es)
  | .app i e => x_app i (soundE e)
  | .rem i e => x_rem i (soundE e)
  | .ext _ _ => fun st sc fb X Z GS h => by cases h
  | .put i j e => x_put i (soundE j) (soundE e)
  | .put2 i1 j1 i2 j2 es => x_put2 i1 i2 (soundE j1) (soundE j2) (soundL es)
  | .ret e => x_ret (soundE e)
  | .retN => fun st sc fb X Z GS h => by
    have h' : kRetN sc fb st = true := h
    unfold kRetN at h'
    split at h'
    · exact ps_retNR
    · cases h'
  | .iff c a b => x_if (soundE c) (soundB a) (soundB b)
  | .for t k src body => x_for t k (soundL src) (soundB body)
  | .while c body => x_while wf (soundE c) (soundB body)
  | .pass => fun st sc fb X Z GS h => by
    have h' : kPass sc fb st = true := h
    unfold kPass at h'
    split at h'
    · exact ps_passR
    · cases h'
  | .brk => fun st sc fb X Z GS h => by
    have h' : kBrk sc fb st = true := h
    unfold kBrk at h'
    split at h'
    · exact ps_brkR
    · cases h'
  | .cnt => fun st sc fb X Z GS h => by
    have h' : kCnt sc fb st = true := h
    unfold kCnt at h'
    split at h'
    · exact ps_cntR
    · cases h'
theorem soundB : ∀ b : List S, SB C call (chkB C b) (exB call wf b)
  | [] => fun xs sc fb X Z GS h => by
    cases xs with
    | nil => exact pss_nilR
    | cons _ _ => cases h
  | s :: r => fun xs sc fb X Z GS h => by
    cases xs with
    | nil => cases h
    | cons x xs =>
      have h' : (chkS C s sc fb x && chkB C r sc fb xs) = true := h
      obtain ⟨h1, h2⟩ := Bool.and_eq_true_iff.mp h'
      exact pss_consR (soundS s x sc fb X Z GS h1) (soundB r xs sc fb X Z GS h2)
end
end
end Ra


set_option Elab.async false
set_option linter.all false
set_option autoImplicit false
set_option maxRecDepth 100000
/-! a table of defs -/
namespace Ra
open PySem PySem.Spec PyProof.Rows L2
/-- a def of the text beside its term -/
structure Df where
  name : Str
  ps : List Str
  N : List Str
  params : Arguments
  body : List Stmt
  scope : Scope
  fn : List S
  /-- calls by names in another order: the names, the places -/
  kws : List (List Str × List Nat) := []
def Df.fnT (d : Df) : Fn := ⟨d.N.length, d.ps.length, d.fn⟩
def ndB : List Str → Bool
  | [] => true
  | x :: r => !r.contains x && ndB r
theorem nd_ok : ∀ {l : List Str}, ndB l = true → l.Nodup
  | [], _ => .nil
  | x :: r, h => by
    obtain ⟨h1, h2⟩ := Bool.and_eq_true_iff.mp (show (!r.contains x && ndB r) = true from h)
    exact List.nodup_cons.mpr ⟨by simpa using h1, nd_ok h2⟩
def scB (N ps : List Str) (sc : Scope) : Bool :=
  (match sc.kind with | .function => true | _ => false) && !sc.isCoroutine && !sc.isGenerator && ndB N && decide (N.take ps.length = ps) && ps.all (fun x => locB sc x) && sc.names.all (fun y => match y.2 with | .free => false | _ => true)
theorem sc_ok {N ps : List Str} {sc : Scope} (h : scB N ps sc = true) : FnScope N ps sc := by
  unfold scB at h
  simp only [Bool.and_eq_true, Bool.not_eq_true', decide_eq_true_eq, List.all_eq_true] at h
  obtain ⟨⟨⟨⟨⟨⟨h1, h2⟩, h3⟩, h4⟩, h5⟩, h6⟩, h7⟩ := h
  refine ⟨?_, h2, h3, nd_ok h4, h5, fun x hx => ?_, fun y hy e => ?_⟩
  · split at h1
    · assumption
    · cases h1
  · have q := h6 x hx
    unfold locB at q
    split at q
    · rename_i e; exact .inl e
    · rename_i e; exact .inr e
    · cases q
  · have q := h7 y hy
    rw [e] at q
    cases q
def csOf (D : List Df) (free : List Str) (glo : List (Str × PyData)) (xs : List XCl) (N : List Str) : Cs := ⟨N, D.map fun d => (d.name, d.ps, d.kws), free, glo, xs⟩
def kwOk (ps : List Str) (q : List Str × List Nat) : Bool := decide (q.1.length = ps.length) && decide (q.2.length = ps.length) && q.2.all fun j => decide (j < ps.length)
theorem kwOk_ok {ps : List Str} {q : List Str × List Nat} (h : kwOk ps q = true) : q.1.length = ps.length ∧ q.2.length = ps.length ∧ ∀ j ∈ q.2, j < ps.length := by
  unfold kwOk at h
  simp only [Bool.and_eq_true, decide_eq_true_eq, List.all_eq_true] at h
  exact ⟨h.1.1, h.1.2, fun j hj => h.2 j hj⟩
def dfB (D : List Df) (free : List Str) (glo : List (Str × PyData)) (xs : List XCl) (d : Df) : Bool := scB d.N d.ps d.scope && decide (d.ps.length ≤ d.N.length) && chkB (csOf D free glo xs d.N) d.fn d.scope (fun _ => true) d.body && d.kws.all (kwOk d.ps)
/-- what must be known of an error's class -/
structure XcK (K : PySem.W.Frag) (P : Program) (mg : Str → Option Value) (xs : List XCl) (c : Nat) (n : XCl) : Prop where
  ex : ∃ C : Addr, mg n.nm = some (.ref C) ∧ MkX K P C n.lk n.fd ∧ PySem.W.keepIn K (.ref C) = true ∧ PySem.W.subIn K (.ref C) (.type "BaseException") = some true ∧ PySem.W.typeIn K (.ref C) = some (.type "type") ∧ ExcC K C ∧ (PySem.W.kitOne K (.ref C) (.type "ValueError") = some (!n.lk) ∧ PySem.W.kitOne K (.ref C) (.type "LookupError") = some n.lk) ∧
    ∀ (c' : Nat) (n' : XCl), xs[c']? = some n' → ∃ C' : Addr, mg n'.nm = some (.ref C') ∧ PySem.W.exmOne K (.ref C) (.ref C') = some (decide (c = c'))
theorem tab_ok {P : Program} {w : World} {K : PySem.W.Frag} {mg : Str → Option Value} {base : Heap} {D : List Df} {free : List Str} {glo : List (Str × PyData)} {xs : List XCl} {wf : Nat} (f : Nat → Addr) (fd : Nat → FuncData)
    (hF : ∀ i d, D[i]? = some d → FunD K d.name d.name d.params d.body d.scope [] [] (f i) (fd i) ∧ mg d.name = some (.ref (f i)) ∧ Binds K (fd i) d.ps [] ∧ (∀ q ∈ d.kws, ∀ (s : Shared) (ws : List Value), ws.length = d.ps.length → BindsTo s (fd i) ⟨[], q.1.zip ws⟩ (d.ps.zip (pick q.2 ws))))
    (hfree : ∀ x ∈ free, mg x = none) (hglo : ∀ x d, glo.lookup x = some d → ∃ u v, mg x = some u ∧ RelV v u ∧ flatD d = some v) (hxs : ∀ c n, xs[c]? = some n → XcK K P mg xs c n) (hchk : D.all (dfB D free glo xs) = true) :
    ∀ n i d, D[i]? = some d → FnOk P w K mg base (L2.CX P w) n (f i) (fd i) d.ps (spOf K (cvM mg xs) d.ps.length (run (D.map Df.fnT) wf n i)) := by
  intro n
  induction n with
  | zero => exact fun i d hd => fn_zero
  | succ n ih =>
    intro i d hd
    obtain ⟨h1, h2, h3, h4⟩ := hF i d hd
    have hc := List.all_eq_true.mp hchk d (List.mem_of_getElem? hd)
    unfold dfB at hc
    simp only [Bool.and_eq_true, decide_eq_true_eq] at hc
    obtain ⟨⟨⟨c1, c2⟩, c3⟩, c4⟩ := hc
    have S := sc_ok c1
    refine fn_succ (Fb := d.fnT) h1 S (by rw [List.getElem?_map, hd]; rfl) rfl rfl fun X E e1 e2 e3 e4 e5 e6 e7 e8 e9 e10 hr => ?_
    subst e1 e2 e3 e4 e5
    refine soundB (C := csOf D free glo xs d.N) (call := run (D.map Df.fnT) wf n) wf d.fn d.body d.scope (fun _ => true) X _ ⟨?_, E, rfl, e9⟩ c3
    refine ⟨e6, S.kind, e7, S.nd, e8, funext e10, hfree, hglo, fun j x ps pms hj => ?_, fun c n h => ?_, ?_, ⟨n, hr⟩⟩
    · have hj' : (D.map fun d => (d.name, d.ps, d.kws))[j]? = some (x, ps, pms) := hj
      rw [List.getElem?_map] at hj'
      obtain ⟨d', hd', e⟩ := Option.map_eq_some_iff.mp hj'
      cases e
      obtain ⟨k1, k2, k3, k4⟩ := hF j d' hd'
      have hc' := List.all_eq_true.mp hchk d' (List.mem_of_getElem? hd')
      unfold dfB at hc'
      obtain ⟨_, c4'⟩ := Bool.and_eq_true_iff.mp hc'
      refine ⟨f j, fd j, n, k2, k1.kp, k3, fun q hq => ?_, ih j d' hd', hr⟩
      obtain ⟨l1, l2, l3⟩ := kwOk_ok (List.all_eq_true.mp c4' q hq)
      exact ⟨l1, l2, l3, k4 q hq⟩
    · obtain ⟨C, b1, b2, b3, b4, b5, b6, b7, b8⟩ := (hxs c n h).ex
      exact ⟨C, b1, b2, b3, raises_own b4 b5, b6, b7, b8⟩
    · have := hr.un
      omega
/-- no defaults: every parameter is named -/
theorem binds_kw {K : PySem.W.Frag} {x qual : Str} {params : Arguments} {body : List Stmt} {scope : Scope} {kws : List (Str × V)} {f : Addr} {fd : FuncData} {ps ks : List Str} {is : List Nat} (F : FunD K x qual params body scope [] kws f fd)
    (h : ∀ (kV doc pm : Value) (an : Option Addr) (cdv ct : Value) (ws : List Value), ws.length = ps.length → bindArgs (PySem.W.fnOf x qual params body scope .none kV doc pm an cdv ct) ⟨[], ks.zip ws⟩ = pure (ps.zip (pick is ws))) (s : Shared) (ws : List Value) (hl : ws.length = ps.length) : BindsTo s fd ⟨[], ks.zip ws⟩ (ps.zip (pick is ws)) := by
  obtain ⟨oc, od, dV, kV, doc, pm, an, cdv, ct, osl, rfl, lk, hcd, hD, hK⟩ := F.ex
  rcases hD with ⟨_, rfl⟩ | ⟨e, _⟩
  · exact .of_eq (h kV doc pm an cdv ct ws hl)
  · exact absurd rfl e
end Ra


set_option Elab.async false
set_option linter.all false
set_option autoImplicit false
set_option maxRecDepth 100000
/-! the end: a head that knows that no list is its own; the script as data -/
namespace Ra
open PySem PySem.Spec PyProof.Rows L2
def notList (o : Obj) : Bool := match o.cls with
  | .type c => !(c == "list")
  | _ => true
def noL (K : PySem.W.Frag) : Bool := K.all fun p => notList p.2
theorem noL_ok {K : PySem.W.Frag} (h : noL K = true) {a : Addr} {o : Obj} (e : K.lookup a = some o) : o.cls ≠ .type "list" := by
  intro hc
  have hm : ∃ b, (b, o) ∈ K := by
    clear h
    induction K with
    | nil => cases e
    | cons p r ih =>
      obtain ⟨b, x⟩ := p
      rw [List.lookup_cons] at e
      split at e
      · cases e; exact ⟨b, List.mem_cons_self⟩
      · obtain ⟨c, h⟩ := ih e
        exact ⟨c, List.mem_cons_of_mem _ h⟩
  obtain ⟨b, hm⟩ := hm
  have z := List.all_eq_true.mp h _ hm
  unfold notList at z
  rw [hc] at z
  simp at z
/-- how the parameters of an error's __init__ are bound -/
def XBnd (f : Str) : Prop := ∀ (qn : Str) (p1 p2 q1 q2 q3 q4 q5 q6 q7 q8 q9 q10 : Pos) (doc pm : Value) (an : Option Addr) (cdv ct : Value) (cc : Addr) (a b : Value), bindArgs (PySem.W.ksFn "__init__" qn (PySem.SupX.iA f p1 p2) (PySem.SupX.iB f q1 q2 q3 q4 q5 q6 q7 q8 q9 q10) (PySem.SupX.iS f) .none .none doc pm an cdv ct cc) ⟨[a, b], []⟩ = pure [(("self" : Str), a), (f, b)]
def prmB (f : Str) (p : Arguments) : Bool := match p with
  | ⟨[], [⟨x, none, _⟩, ⟨y, none, _⟩], none, [], [], none, []⟩ => decide (x = "self") && decide (y = f)
  | _ => false
theorem prmB_ok {f : Str} {p : Arguments} (h : prmB f p = true) : ∃ p1 p2, p = PySem.SupX.iA f p1 p2 := by
  unfold prmB at h
  split at h
  · obtain ⟨h1, h2⟩ := Bool.and_eq_true_iff.mp h
    have e1 := of_decide_eq_true h1
    have e2 := of_decide_eq_true h2
    subst e1 e2
    exact ⟨_, _, rfl⟩
  · cases h
def bdyB (f : Str) (b : FuncBody) : Bool := match b with
  | .stmts [.Expr (.Call (.Attribute (.Call (.Name s1 _) [] [] _) i1 q3) [.Name f1 _] [] q5) _, .Assign [.Attribute (.Name s2 _) f2 _] (.Name f3 _) _] => decide (s1 = "super") && decide (i1 = "__init__") && decide (f1 = f) && decide (s2 = "self") && decide (f2 = f) && decide (f3 = f) && (q3.endLine == q5.line)
  | _ => false
theorem bdyB_ok {f : Str} {b : FuncBody} (h : bdyB f b = true) : ∃ q1 q2 q3 q4 q5 q6 q7 q8 q9 q10, b = .stmts (PySem.SupX.iB f q1 q2 q3 q4 q5 q6 q7 q8 q9 q10) ∧ (q3.endLine == q5.line) = true := by
  unfold bdyB at h
  split at h
  · simp only [Bool.and_eq_true, decide_eq_true_eq] at h
    obtain ⟨⟨⟨⟨⟨⟨e1, e2⟩, e3⟩, e4⟩, e5⟩, e6⟩, e7⟩ := h
    subst e1 e2 e3 e4 e5 e6
    exact ⟨_, _, _, _, _, _, _, _, _, _, rfl, e7⟩
  · cases h
def filB (K : PySem.W.Frag) (c : Addr) (file : Str) : Bool := match K.lookup c with
  | some ⟨_, _, .fields vs, _⟩ => (match (vs : Array Value)[2]? with
    | some (Value.str z _) => file == z
    | _ => false)
  | _ => false
theorem filB_ok {K : PySem.W.Frag} {c : Addr} {file : Str} (h : filB K c file = true) : ∃ ccl cdd vs ccs z t, K.lookup c = some ⟨ccl, cdd, .fields vs, ccs⟩ ∧ vs[2]? = some (.str z t) ∧ (file == z) = true := by
  unfold filB at h
  split at h
  · rename_i e
    split at h
    · rename_i e2
      exact ⟨_, _, _, _, _, _, e, e2, h⟩
    · cases h
  · cases h
def celB (K : PySem.W.Frag) (c C : Addr) : Bool := match K.lookup c with
  | some ⟨_, _, .cell (some (.ref D)), _⟩ => decide (D = C)
  | _ => false
theorem celB_ok {K : PySem.W.Frag} {c C : Addr} (h : celB K c C = true) : ∃ cl cld csl, K.lookup c = some ⟨cl, cld, .cell (some (.ref C)), csl⟩ := by
  unfold celB at h
  split at h
  · rename_i e
    have z := of_decide_eq_true h
    subst z
    exact ⟨_, _, _, e⟩
  · cases h
/-- __init__'s own object -/
def iniB (K : PySem.W.Frag) (file f : Str) (C fI : Addr) : Bool := match K.lookup fI with
  | some ⟨_, _, .func ⟨nm, qn, ps, bd, sc, gl, [(x, cc)], df, kd, _, _, _, .ref cda, _, bl⟩, _⟩ => decide (nm = "__init__") && prmB f ps && bdyB f bd && decide (sc = PySem.SupX.iS f) && decide (gl = mainGlobals) && decide (x = "__class__") && celB K cc C && decide (df = .none) && decide (kd = .none) && decide (bl = builtinsNs) && PySem.W.codeIn K (.ref cda) qn && filB K cda file
  | _ => false
theorem iniB_ok {K : PySem.W.Frag} {file f : Str} {C fI : Addr} (h : iniB K file f C fI = true) : ∃ (oc : Value) (od : Option Addr) (qn : Str) (doc pm : Value) (an : Option Addr) (cda cc : Addr) (ct : Value) (osl : Array (Option Value)) (p1 p2 q1 q2 q3 q4 q5 q6 q7 q8 q9 q10 : Pos) (ccl cl : Value) (cdd cld : Option Addr) (ccs csl : Array (Option Value)) (vs : Array Value) (z : Str) (tf : Tok),
    K.lookup fI = some ⟨oc, od, .func (PySem.W.ksFn "__init__" qn (PySem.SupX.iA f p1 p2) (PySem.SupX.iB f q1 q2 q3 q4 q5 q6 q7 q8 q9 q10) (PySem.SupX.iS f) .none .none doc pm an (.ref cda) ct cc), osl⟩ ∧ PySem.W.codeIn K (.ref cda) qn = true ∧
    K.lookup cda = some ⟨ccl, cdd, .fields vs, ccs⟩ ∧ vs[2]? = some (.str z tf) ∧ (file == z) = true ∧ K.lookup cc = some ⟨cl, cld, .cell (some (.ref C)), csl⟩ ∧ (q3.endLine == q5.line) = true := by
  unfold iniB at h
  split at h
  · rename_i e
    simp only [Bool.and_eq_true, decide_eq_true_eq] at h
    obtain ⟨⟨⟨⟨⟨⟨⟨⟨⟨⟨⟨a1, a2⟩, a3⟩, a4⟩, a5⟩, a6⟩, a7⟩, a8⟩, a9⟩, a10⟩, a11⟩, a12⟩ := h
    obtain ⟨p1, p2, b1⟩ := prmB_ok a2
    obtain ⟨q1, q2, q3, q4, q5, q6, q7, q8, q9, q10, b2, b3⟩ := bdyB_ok a3
    obtain ⟨cl, cld, csl, b4⟩ := celB_ok a7
    obtain ⟨ccl, cdd, vs, ccs, z, t, b5, b6, b7⟩ := filB_ok a12
    subst a1 b1 b2 a4 a5 a6 a8 a9 a10
    exact ⟨_, _, _, _, _, _, _, _, _, _, p1, p2, q1, q2, q3, q4, q5, q6, q7, q8, q9, q10, ccl, cl, cdd, cld, ccs, csl, vs, z, t, e, a11, b5, b6, b7, b4, b3⟩
  · cases h
def xB : Bool → String
  | true => "LookupError"
  | false => "ValueError"
def xI : Bool → String
  | true => "LookupError.__init__"
  | false => "ValueError.__init__"
theorem xBB (lk : Bool) : PySem.SupX.BaseB (xB lk) (xNew lk) (xI lk) (xBase lk) := by
  cases lk
  · exact PySem.SupX.base_ValueError
  · exact PySem.SupX.base_LookupError
def nmB (f : Str) : Bool := !(f == ("self" : Str)) && !(("super" : Str) == f) && !(("__class__" : Str) == f) && !(f == ("__debug__" : Str))
def supB (K : PySem.W.Frag) (file f : Str) (lk : Bool) (C : Addr) : Bool := match PySem.W.findIn K (.ref C) "__init__" with
  | some (some (.ref fI)) => PySem.W.excInitIn K C (xBase lk) (xNew lk) && PySem.W.excOver K C (xBase lk) && He.eqO (PySem.W.findIn K (.ref C) "__setattr__") (some (some (.builtin "object.__setattr__"))) && He.eqO (PySem.W.findIn K (.ref C) f) (some none) && PySem.W.isFn K (.ref fI) && PySem.W.hasDictIn K C &&
      He.eqO (PySem.W.ks_superIn K C C "__init__") (some (some (.builtin (xI lk)))) && decide (PySem.W.subIn K (.ref C) (.type (xB lk)) = some true) && decide (PySem.W.mroIn K C (.ref C) = some true) && He.eqO (PySem.W.nsIn K cStatics "thirdparty.any") (some none) && nmB f && iniB K file f C fI && xfB K C
  | _ => false
theorem supB_ok {K : PySem.W.Frag} {P : Program} {f : Str} {lk : Bool} {C : Addr} (h : supB K P.main.file f lk C = true) (hb : XBnd f) (top : (P.main.scope.names.lookup ("super" : Str)).isSome = false) : MkX K P C lk (some f) := by
  unfold supB at h
  split at h
  · rename_i fI e
    simp only [Bool.and_eq_true, decide_eq_true_eq] at h
    obtain ⟨⟨⟨⟨⟨⟨⟨⟨⟨⟨⟨⟨a1, a2⟩, a3⟩, a4⟩, a5⟩, a6⟩, a7⟩, a8⟩, a9⟩, a10⟩, a11⟩, a12⟩, a13⟩ := h
    refine ⟨fI, xB lk, xNew lk, xI lk, xBase lk, ⟨xBB lk, a1, a2, He.eqO_ok a3, He.eqO_ok a4, e, a5, a6, He.eqO_ok a7, a8, a9, He.eqO_ok a10, ?_, hb, top, iniB_ok a12⟩, xfB_ok a13⟩
    unfold nmB at a11
    simp only [Bool.and_eq_true, Bool.not_eq_true'] at a11
    exact ⟨a11.1.1.1, a11.1.1.2, a11.1.2, a11.2⟩
  · cases h
def mkB (K : PySem.W.Frag) (file : Str) (lk : Bool) (C : Addr) : Option Str → Bool
  | none => PySem.W.excIn K C (xBase lk) (xNew lk)
  | some f => supB K file f lk C
/-- what must be so of an error's class -/
def xc1 (K : PySem.W.Frag) (file : Str) (n : XCl) (D : Addr) : Bool := mkB K file n.lk D n.fd && PySem.W.keepIn K (.ref D) && decide (PySem.W.subIn K (.ref D) (.type "BaseException") = some true) && decide (PySem.W.typeIn K (.ref D) = some (.type "type")) &&
  He.eqO (PySem.W.findIn K (.ref D) "__getattribute__") (some (some (.builtin "BaseException.__getattribute__"))) && He.eqO (PySem.W.findIn K (.ref D) "__getattr__") (some none) && PySem.W.hasDictIn K D && He.eqO (PySem.W.findIn K (.ref D) "__class__") (some (some (.builtin "object.__class__"))) &&
  He.eqO (PySem.W.specialIn K (.builtin "object.__class__") "__get__") (some (some (.builtin "getset_descriptor.__get__"))) && decide (PySem.W.takesIn K (.builtin "object.__class__") = some true) && decide (PySem.W.mroIn K D (.type "object") = some true) && decide (PySem.W.kitOne K (.ref D) (.type "ValueError") = some (!n.lk)) && decide (PySem.W.kitOne K (.ref D) (.type "LookupError") = some n.lk)
def xc2 (K : PySem.W.Frag) (D : Addr) (c : Nat) : Nat → List XCl → Bool
  | _, [] => true
  | k, n :: r => decide (PySem.W.exmOne K (.ref D) (.ref (He.ga K n.nm)) = some (decide (c = k))) && xc2 K D c (k + 1) r
theorem xc2_ok {K : PySem.W.Frag} {D : Addr} {c : Nat} : ∀ {k : Nat} {l : List XCl}, xc2 K D c k l = true → ∀ (j : Nat) (n : XCl), l[j]? = some n → PySem.W.exmOne K (.ref D) (.ref (He.ga K n.nm)) = some (decide (c = k + j))
  | k, [], _, j, n, e => by simp at e
  | k, x :: r, h, j, n, e => by
    obtain ⟨h1, h2⟩ := Bool.and_eq_true_iff.mp (show (decide (PySem.W.exmOne K (.ref D) (.ref (He.ga K x.nm)) = some (decide (c = k))) && xc2 K D c (k + 1) r) = true from h)
    cases j with
    | zero =>
      simp at e
      subst e
      exact of_decide_eq_true h1
    | succ j =>
      have q := xc2_ok h2 j n (by simpa using e)
      rw [q, show k + 1 + j = k + (j + 1) by omega]
def xcsB (K : PySem.W.Frag) (file : Str) (xs : List XCl) : Nat → List XCl → Bool
  | _, [] => true
  | c, n :: r => xc1 K file n (He.ga K n.nm) && xc2 K (He.ga K n.nm) c 0 xs && xcsB K file xs (c + 1) r
theorem xcsB_ok {K : PySem.W.Frag} {file : Str} {xs : List XCl} : ∀ {c : Nat} {l : List XCl}, xcsB K file xs c l = true → ∀ (j : Nat) (n : XCl), l[j]? = some n → xc1 K file n (He.ga K n.nm) = true ∧ xc2 K (He.ga K n.nm) (c + j) 0 xs = true
  | c, [], _, j, n, e => by simp at e
  | c, x :: r, h, j, n, e => by
    simp only [xcsB, Bool.and_eq_true] at h
    cases j with
    | zero =>
      simp at e
      subst e
      exact h.1
    | succ j =>
      have q := xcsB_ok h.2 j n (by simpa using e)
      rw [show c + 1 + j = c + (j + 1) by omega] at q
      exact q
theorem xck_ok {K : PySem.W.Frag} {P : Program} {mg : Str → Option Value} {xs : List XCl} (h : xcsB K P.main.file xs 0 xs = true) (hm : ∀ n ∈ xs, mg n.nm = some (.ref (He.ga K n.nm))) (hb : ∀ n ∈ xs, ∀ f, n.fd = some f → XBnd f) (top : (P.main.scope.names.lookup ("super" : Str)).isSome = false) (c : Nat) (n : XCl) (e : xs[c]? = some n) : XcK K P mg xs c n := by
  obtain ⟨h1, h2⟩ := xcsB_ok h c n e
  have hmem := List.mem_of_getElem? e
  rw [Nat.zero_add] at h2
  unfold xc1 at h1
  simp only [Bool.and_eq_true, decide_eq_true_eq] at h1
  obtain ⟨⟨⟨⟨⟨⟨⟨⟨⟨⟨⟨⟨a1, a2⟩, a3⟩, a4⟩, a5⟩, a6⟩, a7⟩, a8⟩, a9⟩, a10⟩, a11⟩, a12⟩, a13⟩ := h1
  have mk : MkX K P (He.ga K n.nm) n.lk n.fd := by
    cases hf : n.fd with
    | none => rw [hf] at a1; exact a1
    | some f => rw [hf] at a1; exact supB_ok a1 (hb n hmem f hf) top
  refine ⟨He.ga K n.nm, hm n hmem, mk, a2, a3, a4, ⟨He.eqO_ok a5, He.eqO_ok a6, a3, a7, He.eqO_ok a8, He.eqO_ok a9, a10, a11⟩, ⟨a12, a13⟩, fun c' n' e' => ⟨He.ga K n'.nm, hm n' (List.mem_of_getElem? e'), ?_⟩⟩
  have q := xc2_ok h2 c' n' e'
  rw [Nat.zero_add] at q
  exact q
/-- what the names reach in n steps; the interpreter's own table -/
def asN (g : Addr → Option Obj) (n : Nat) : List Addr := He.asD g n ++ [cStatics]
def obN (n : Nat) (file : Str) (fa : List He.Fa) (fn : List He.DefD) (xs : List XCl) (g : Addr → Option Obj) : He.AlD × Bool := (He.obsD fa fn (He.frG g (asN g n)), noL (He.frG g (asN g n)) && xcsB (He.frG g (asN g n)) file xs 0 xs)
def hookN (n : Nat) (file : Str) (fa : List He.Fa) (fn : List He.DefD) (xs : List XCl) : PySem.W.Hook where
  α := He.AlD × Bool
  obs := fun s => obN n file fa fn xs s.heap.get?
  val := fun _ => (He.valD fn, true)
  says := fun _ h => ∃ K : PySem.W.Frag, K.In h ∧ He.SaysD fa fn K ∧ (noL K && xcsB K file xs 0 xs) = true
  of := fun _ _ e => ⟨_, He.frG_in, congrArg Prod.fst e, congrArg Prod.snd e⟩
  keeps := fun _ _ _ ⟨K, hK, c⟩ k => ⟨K, PySem.W.Frag.In.keeps hK k, c⟩
theorem obN_eq {n : Nat} {file : Str} {fa : List He.Fa} {fn : List He.DefD} {xs : List XCl} {g : Addr → Option Obj} {s : Shared} (h : ∀ a, g a = s.heap.get? a) : obN n file fa fn xs g = (hookN n file fa fn xs).obs s := by
  rw [show g = s.heap.get? from funext h]
  rfl
/-- the sizes of what is tracked -/
def SzH (H : Hp) : Prop := ∀ a xs, (H a = some (.lst xs) ∨ H a = some (.tup xs) ∨ (∃ o, H a = some (.frz o (.lst xs))) ∨ ∃ o, H a = some (.frz o (.tup xs))) → xs.length ≤ sizeLine
theorem szH {P : Program} {w : World} {H : Hp} {h : Heap} (x : HOk P w H h) : SzH H := by
  intro a xs e
  rcases e with e | e | ⟨o, e⟩ | ⟨o, e⟩
  · exact (x a _ e).1
  · exact (x a _ e).1
  · exact (x a _ e).2.1
  · exact (x a _ e).2.1
theorem fn_sized {P : Program} {w : World} {K : PySem.W.Frag} {mg : Str → Option Value} {base : Heap} {CX : CXT} {k : Nat} {f : Addr} {fd : FuncData} {ps : List Str} {sp : Sp} (F : FnOk P w K mg base CX k f fd ps sp) :
    FnOk P w K mg base CX k f fd ps fun vs H Q E => vs.length = ps.length ∧ (SzH H → sp vs H Q E) :=
  ⟨fun vs H Q E h => h.1, fun A outer s H args us vs Q E hr he hb hv h => F.run A outer s H args us vs Q E hr he hb hv (h.2 (szH he.hok))⟩
theorem ints_all {K : PySem.W.Frag} {F : Addr → Prop} {H : Hp} : ∀ ns : List Int, RpAll K F H (ns.map V.int) (ns.map PyData.int)
  | [] => .nil
  | n :: r => .cons (.int n) (ints_all r)
theorem sp_end {K : PySem.W.Frag} {c : List Val → Mem → Res Val} {H : Hp} {a : Addr} {ns : List Int} {cv : Nat → Value × Str} (hN : noL K = true) (hO : Only H) (hz : SzH H) (hS : SqL K H a (ns.map V.int))
    (h : ∃ m, c [.d (.list (ns.map PyData.int))] [] = .ok (.d (.bool true)) m) : spOf K cv 1 c [.ref a] H (fun v _ => v = .bl true) fun _ _ _ => False := by
  obtain ⟨m, h⟩ := h
  have hR : ∃ o, H a = some (.frz o (.lst (ns.map V.int))) := by
    rcases hS with (e | e) | ⟨o, _, _, e, e2, _⟩
    · rcases hO a with z | ⟨_, _, z⟩ <;> rw [z] at e <;> cases e
    · exact e
    · exact absurd e2 (noL_ok hN e)
  refine ⟨rfl, [.d (.list (ns.map PyData.int))], [], ⟨fun _ => False, [], fun _ => False⟩, ?_, .cons (.lst (.inr hR) (ints_all ns)) (fun _ h => by cases h) .nil, ?_⟩
  · exact ⟨fun _ h => h.elim, rfl, .nil, fun k c b e => by simp at e, hz, fun _ h => h.elim, fun _ h => h.elim, fun _ h => h.elim⟩
  · rw [h]
    intro g' H' e s
    show Ans K _ _ _ _ _
    intro z hz
    cases hz
    rfl
/-! all facts of the head at once -/
def fnOfD (D : List Df) : List He.DefD := D.map fun d => ⟨(d.name, none), d.name, d.name, d.params, d.body, d.scope, [], []⟩
def gloFa : Str × PyData → He.Fa
  | (x, .str z) => .str x z
  | (x, .int i) => .int x i
  | (x, _) => .free x
def faOfD (D : List Df) (free : List Str) (glo : List (Str × PyData)) (xs : List XCl) : List He.Fa := D.map (fun d => .glo d.name) ++ (free.map .free ++ (glo.map gloFa ++ xs.map fun n => .glo n.nm))
/-- how arguments are bound -/
def BndD (d : Df) : Prop := (∀ (x qual : Str) (body : List Stmt) (scope : Scope) (kV doc pm : Value) (an : Option Addr) (cdv ct : Value) (us : List Value), us.length = d.ps.length →
    bindArgs (PySem.W.fnOf x qual d.params body scope .none kV doc pm an cdv ct) ⟨us, []⟩ = pure (d.ps.zip us)) ∧
  (∀ q ∈ d.kws, ∀ (x qual : Str) (body : List Stmt) (scope : Scope) (kV doc pm : Value) (an : Option Addr) (cdv ct : Value) (us : List Value), us.length = d.ps.length →
    bindArgs (PySem.W.fnOf x qual d.params body scope .none kV doc pm an cdv ct) ⟨[], q.1.zip us⟩ = pure (d.ps.zip (pick q.2 us)))
def gloC : List (Str × PyData) → Bool
  | [] => true
  | (_, .str z) :: r => sOk z && gloC r
  | (_, .int _) :: r => gloC r
  | _ => false
theorem gloC_ok : ∀ {glo : List (Str × PyData)}, gloC glo = true → ∀ {x : Str} {d : PyData}, glo.lookup x = some d → ((∃ z, d = .str z ∧ sOk z = true) ∨ ∃ i, d = .int i) ∧ (x, d) ∈ glo
  | [], _, _, _, e => by cases e
  | (y, .str z) :: r, h, x, d, e => by
    rw [List.lookup_cons] at e
    split at e
    · rename_i q
      cases e
      exact ⟨.inl ⟨z, rfl, (Bool.and_eq_true_iff.mp h).1⟩, by rw [eq_of_beq q]; exact List.mem_cons_self⟩
    · obtain ⟨h1, h2⟩ := gloC_ok (glo := r) (Bool.and_eq_true_iff.mp h).2 e
      exact ⟨h1, List.mem_cons_of_mem _ h2⟩
  | (y, .int i) :: r, h, x, d, e => by
    rw [List.lookup_cons] at e
    split at e
    · rename_i q
      cases e
      exact ⟨.inr ⟨i, rfl⟩, by rw [eq_of_beq q]; exact List.mem_cons_self⟩
    · obtain ⟨h1, h2⟩ := gloC_ok (glo := r) h e
      exact ⟨h1, List.mem_cons_of_mem _ h2⟩
  | (y, .none) :: r, h, _, _, _ => by cases h
  | (y, .bool _) :: r, h, _, _, _ => by cases h
  | (y, .list _) :: r, h, _, _, _ => by cases h
  | (y, .tuple _) :: r, h, _, _, _ => by cases h
  | (y, .dict _) :: r, h, _, _, _ => by cases h
/-- what is let out, at some world -/
def CXe (P : Program) : CXT := fun outer H s E u s' => ∃ w : World, L2.CX P w outer H s E u s'
theorem cxe_none {P : Program} {outer : List PySem.Env} {H : Hp} {s : Shared} {e : Value} {s' : Shared} (h : CXe P outer H s (fun _ _ _ => False) e s') : False := by
  obtain ⟨w, a, B, H', cls, d, _, _, _, _, _, _, _, z⟩ := h
  exact z
theorem fn_cxe {P : Program} {w : World} {K : PySem.W.Frag} {mg : Str → Option Value} {base : Heap} {k : Nat} {f : Addr} {fd : FuncData} {ps : List Str} {sp : Sp} (F : FnOk P w K mg base (L2.CX P w) k f fd ps sp) : FnOk P w K mg base (CXe P) k f fd ps sp :=
  ⟨F.len, fun A outer s H args us vs Q E hr he hb hv h => codeAny_mono (F.run A outer s H args us vs Q E hr he hb hv h) fun r s' q => by
    cases r with
    | error e => exact ⟨w, q⟩
    | ok fl =>
      cases fl <;> exact q⟩
theorem head_ok {P : Program} {w : World} {K : PySem.W.Frag} {h : Heap} {mg : Str → Option Value} {D : List Df} {free : List Str} {glo : List (Str × PyData)} {xs : List XCl} (wf n : Nat) (X : K.In h) (G : h.Ns mainGlobals mg) (c : He.SaysD (faOfD D free glo xs) (fnOfD D) K) (hxc : xcsB K P.main.file xs 0 xs = true) (hxb : ∀ n ∈ xs, ∀ f, n.fd = some f → XBnd f) (top : (P.main.scope.names.lookup ("super" : Str)).isSome = false)
    (hB : ∀ d ∈ D, BndD d) (hg : gloC glo = true) (hchk : D.all (dfB D free glo xs) = true) {l : Nat} {dl : Df} (hl : D[l]? = some dl) {a : Addr} (ha : mg dl.name = some (.ref a)) {x : Str} (hx : dl.ps = [x]) :
    ∃ fd : FuncData, (∀ (s : Shared) (v : Value), BindsTo s fd ⟨[v], []⟩ [(x, v)]) ∧ ∀ base : Heap, FnOk P w K mg base (CXe P) n a fd [x] fun vs H Q E => vs.length = 1 ∧ (SzH H → spOf K (cvM mg xs) 1 (run (D.map Df.fnT) wf n l) vs H Q E) := by
  have hd : ∀ (i : Nat) (d : Df), D[i]? = some d → ∃ fd, FunD K d.name d.name d.params d.body d.scope [] [] (He.ga K d.name) fd := by
    intro i d e
    obtain ⟨fd, F⟩ := c.def_ i (d := ⟨(d.name, none), d.name, d.name, d.params, d.body, d.scope, [], []⟩) (by unfold fnOfD; rw [List.getElem?_map, e]; rfl)
    exact ⟨fd, F⟩
  have hm : ∀ d ∈ D, mg d.name = some (.ref (He.ga K d.name)) := fun d e => He.glo_ok X G (c.facts (f := .glo d.name) (List.mem_append_left _ (List.mem_map_of_mem e)))
  let f : Nat → Addr := fun i => match D[i]? with
    | some d => He.ga K d.name
    | none => 0
  have hf : ∀ (i : Nat) (d : Df), D[i]? = some d → f i = He.ga K d.name := fun i d e => by
    show (match D[i]? with | some d => He.ga K d.name | none => 0) = _
    rw [e]
  classical
  have hex : ∀ i : Nat, ∃ fd : FuncData, ∀ (d : Df), D[i]? = some d → FunD K d.name d.name d.params d.body d.scope [] [] (f i) fd := by
    intro i
    cases e : D[i]? with
    | none => 
      obtain ⟨fd, _⟩ := hd l dl hl
      exact ⟨fd, fun d z => by cases z⟩
    | some d =>
      obtain ⟨fd, F⟩ := hd i d e
      exact ⟨fd, fun d' z => by cases z; rw [hf i d e]; exact F⟩
  let fd : Nat → FuncData := fun i => Classical.choose (hex i)
  have hfd : ∀ (i : Nat) (d : Df), D[i]? = some d → FunD K d.name d.name d.params d.body d.scope [] [] (f i) (fd i) := fun i => Classical.choose_spec (hex i)
  have key : ∀ base : Heap, FnOk P w K mg base (L2.CX P w) n (f l) (fd l) dl.ps (spOf K (cvM mg xs) dl.ps.length (run (D.map Df.fnT) wf n l)) := by
    intro base
    refine tab_ok (D := D) (free := free) (glo := glo) (xs := xs) (wf := wf) f fd (fun i d e => ?_) (fun x e => ?_) (fun x d e => ?_) (xck_ok hxc (fun n hn => ?_) hxb top) hchk n l dl hl
    · have F := hfd i d e
      have B := hB d (List.mem_of_getElem? e)
      exact ⟨F, by rw [hf i d e]; exact hm d (List.mem_of_getElem? e), F.bindsN fun kV doc pm an cdv ct us hu => B.1 _ _ _ _ kV doc pm an cdv ct us hu, fun q hq => binds_kw F fun kV doc pm an cdv ct us hu => B.2 q hq _ _ _ _ kV doc pm an cdv ct us hu⟩
    · exact He.free_ok X G (c.facts (f := .free x) (List.mem_append_right _ (List.mem_append_left _ (List.mem_map_of_mem e))))
    · obtain ⟨hd, hz⟩ := gloC_ok hg e
      rcases hd with ⟨z, rfl, ho⟩ | ⟨i, rfl⟩
      · obtain ⟨t, ht⟩ := He.str_ok X G (x := x) (z := z) (c.facts (f := .str x z) (List.mem_append_right _ (List.mem_append_right _ (List.mem_append_left _ (List.mem_map_of_mem (f := gloFa) hz)))))
        exact ⟨_, .str z, ht, ⟨_, rfl⟩, by simp [flatD, ho]⟩
      · obtain ⟨t, ht⟩ := He.int_ok X G (x := x) (i := i) (c.facts (f := .int x i) (List.mem_append_right _ (List.mem_append_right _ (List.mem_append_left _ (List.mem_map_of_mem (f := gloFa) hz)))))
        exact ⟨_, .int i, ht, ⟨_, rfl⟩, rfl⟩
    · exact He.glo_ok X G (c.facts (f := .glo n.nm) (List.mem_append_right _ (List.mem_append_right _ (List.mem_append_right _ (List.mem_map_of_mem (f := fun n : XCl => He.Fa.glo n.nm) hn)))))
  have e := ha.symm.trans (hm dl (List.mem_of_getElem? hl))
  rw [← hf l dl hl] at e
  cases e
  refine ⟨fd l, fun s v => ?_, fun base => ?_⟩
  · have F := hfd l dl hl
    have B := hB dl (List.mem_of_getElem? hl)
    have z := FunD.bindsA (ps := dl.ps) F (fun kV doc pm an cdv ct us hu => B.1 _ _ _ _ kV doc pm an cdv ct us hu) s [v] (by rw [hx]; rfl)
    rw [hx] at z
    exact z
  · have k := fn_sized (fn_cxe (key base))
    rw [hx] at k
    exact k
end Ra


set_option Elab.async false
set_option linter.all false
set_option maxRecDepth 100000
set_option maxHeartbeats 0
namespace K1
open PySem PySem.Spec PyProof.Rows L2 Ra
def top (i : Nat) : Stmt := PySem.Challenge.pw_reportalike_k01_what_runs_at_a_variant.main.body.getD i (.Pass ⟨0, 0, 0, 0⟩)
def b_is_number : List S := [(.ret (.band [(.isi (.var 0) [.int]), (.not (.isi (.var 0) [.bool]))]))]
def b_is_name : List S := [(.ret (.band [(.isi (.var 0) [.str]), (.chain .le .le (.cst (.int 1)) (.bi .len [(.var 0)]) (.cst (.int 8))), (.bi .all [(.lc [1] (.nm 1) .seq [(.var 0)] [] (.cmp .isin (.var 1) (.glo (.str "abcdefghijklmnopqrstuvwxyz"))))])]))]
def b_tupled : List S := [(.ret (.ite (.isi (.var 0) [.list, .tuple]) (.bi .tuple [(.lc [1] (.nm 1) .seq [(.var 0)] [] (.call 2 [(.var 1)]))]) (.var 0)))]
def b_rises : List S := [(.ret (.bi .all [(.lc [1, 2] (.tp [(.nm 1), (.nm 2)]) .zip [(.var 0), (.slL (.var 0) (.cst (.int 1)))] [] (.cmp .lt (.var 1) (.var 2)))]))]
def b_set_of : List S := [(.ret (.bi .tuple [(.bi .sortedset [(.var 0)])]))]
def b_is_condition : List S := [(.iff (.bor [(.not (.isi (.var 0) [.tuple])), (.not (.bi .all [(.lc [3] (.nm 3) .seq [(.var 0)] [] (.band [(.isi (.var 3) [.tuple]), (.cmp .eq (.bi .len [(.var 3)]) (.cst (.int 2)))]))]))]) [(.ret (.cst (.bool false)))] []), (.iff (.not (.bi .all [(.lc [1, 2] (.tp [(.nm 1), (.nm 2)]) .seq [(.var 0)] [] (.band [(.call 1 [(.var 1)]), (.call 0 [(.var 2)]), (.chain .le .le (.cst (.int 0)) (.var 2) (.cst (.int 1)))]))])) [(.ret (.cst (.bool false)))] []), (.ret (.call 3 [(.lc [1, 2] (.tp [(.nm 1), (.nm 2)]) .seq [(.var 0)] [] (.var 1))]))]
def b_is_step : List S := [(.iff (.bor [(.not (.isi (.var 0) [.tuple])), (.cmp .ne (.bi .len [(.var 0)]) (.cst (.int 5)))]) [(.ret (.cst (.bool false)))] []), (.setT (.tp [(.nm 1), (.nm 2), (.nm 3), (.nm 4), (.nm 5)]) (.var 0)), (.iff (.bor [(.not (.call 1 [(.var 1)])), (.not (.call 1 [(.var 2)])), (.not (.call 1 [(.var 4)])), (.not (.call 5 [(.var 5)]))]) [(.ret (.cst (.bool false)))] []), (.ret (.band [(.isi (.var 3) [.tuple]), (.bi .all [(.lc [6] (.nm 6) .seq [(.var 3)] [] (.call 1 [(.var 6)]))])]))]
def b_is_plan : List S := [(.iff (.bor [(.not (.isi (.var 0) [.tuple])), (.not (.bi .all [(.lc [2] (.nm 2) .seq [(.var 0)] [] (.call 6 [(.var 2)]))]))]) [(.ret (.cst (.bool false)))] []), (.ret (.call 3 [(.lc [1] (.nm 1) .seq [(.var 0)] [] (.idx (.var 1) (.cst (.int 0))))]))]
def b_holds : List S := [(.ret (.bi .all [(.lc [2, 3] (.tp [(.nm 2), (.nm 3)]) .seq [(.var 0)] [] (.cmp .eq (.cmp .isin (.var 2) (.var 1)) (.cmp .eq (.var 3) (.cst (.int 1)))))]))]
def b_running : List S := [(.ret (.bi .tuple [(.lc [2] (.nm 2) .seq [(.call 2 [(.var 0)])] [(.call 8 [(.idx (.var 2) (.cst (.int 4))), (.var 1)])] (.var 2))]))]
def b_step_of : List S := [(.set 2 false (.lc [3] (.nm 3) .seq [(.call 2 [(.var 0)])] [(.cmp .eq (.idx (.var 3) (.cst (.int 0))) (.var 1))] (.var 3))), (.iff (.cmp .eq (.bi .len [(.var 2)]) (.cst (.int 0))) [(.raise1 0 (.var 1))] []), (.ret (.idx (.var 2) (.cst (.int 0))))]
def b_flags_in : List S := [(.ret (.call 4 [(.lc2 [1, 2, 3] [2, 3] (.nm 1) .seq [(.call 2 [(.var 0)])] [] (.tp [(.nm 2), (.nm 3)]) .seq [(.idx (.var 1) (.cst (.int 4)))] [] (.var 2))]))]
def b_methods_in : List S := [(.ret (.call 4 [(.lc [1] (.nm 1) .seq [(.call 2 [(.var 0)])] [] (.idx (.var 1) (.cst (.int 1))))]))]
def b_sheets_in : List S := [(.ret (.call 4 [(.lc2 [1, 2] [2] (.nm 1) .seq [(.call 2 [(.var 0)])] [] (.nm 2) .seq [(.tupS [true, false] [(.idx (.var 1) (.cst (.int 2))), (.idx (.var 1) (.cst (.int 3)))])] [] (.var 2))]))]
def b_variants_of : List S := [(.set 1 false (.lst [(.tup [])])), (.for (.nm 2) .seq [(.call 11 [(.var 0)])] [(.set 1 false (.op .add (.var 1) (.lc [3] (.nm 3) .seq [(.var 1)] [] (.tupS [true, false] [(.var 3), (.var 2)]))))]), (.ret (.bi .sorted [(.var 1)]))]
def b_made_at : List S := [(.ret (.call 4 [(.lc [2] (.nm 2) .seq [(.call 9 [(.var 0), (.var 1)])] [] (.idx (.var 2) (.cst (.int 3))))]))]
def b_counts_needed : List S := [(.set 2 false (.call 15 [(.var 0), (.var 1)])), (.ret (.call 4 [(.lc2 [3, 4] [4] (.nm 3) .seq [(.call 9 [(.var 0), (.var 1)])] [] (.nm 4) .seq [(.idx (.var 3) (.cst (.int 2)))] [(.cmp .notin (.var 4) (.var 2))] (.var 4))]))]
def b_maker : List S := [(.set 3 false (.lc [4] (.nm 4) .seq [(.call 9 [(.var 0), (.var 1)])] [(.cmp .eq (.idx (.var 4) (.cst (.int 3))) (.var 2))] (.var 4))), (.ret (.ite (.cmp .gt (.bi .len [(.var 3)]) (.cst (.int 0))) (.idx (.var 3) (.cst (.int 0))) (.cst .none)))]
def b_with_step : List S := [(.iff (.cmp .isin (.idx (.var 1) (.cst (.int 0))) (.lc [2] (.nm 2) .seq [(.var 0)] [] (.idx (.var 2) (.cst (.int 0))))) [(.raise1 1 (.idx (.var 1) (.cst (.int 0))))] []), (.ret (.call 4 [(.lstS [true, false] [(.call 2 [(.var 0)]), (.call 2 [(.var 1)])])]))]
def b_without_step : List S := [(.exprx (.call 10 [(.var 0), (.var 1)])), (.ret (.bi .tuple [(.lc [2] (.nm 2) .seq [(.call 2 [(.var 0)])] [(.cmp .ne (.idx (.var 2) (.cst (.int 0))) (.var 1))] (.var 2))]))]
def b_renamed_sheets : List S := [(.set 2 false (.dc [9, 10] (.tp [(.nm 9), (.nm 10)]) .seq [(.var 1)] [] (.var 9) (.var 10))), (.set 3 true (.lst [])), (.for (.tp [(.nm 4), (.nm 5), (.nm 6), (.nm 7), (.nm 8)]) .seq [(.call 2 [(.var 0)])] [(.set 6 false (.bi .tuple [(.lc [11] (.nm 11) .seq [(.var 6)] [] (.dget (.var 2) (.var 11) (.var 11)))])), (.app 3 (.tup [(.var 4), (.var 5), (.var 6), (.dget (.var 2) (.var 7) (.var 7)), (.var 8)]))]), (.ret (.bi .tuple [(.var 3)]))]
def b__law_box : List S := [(.set 2 false (.ite (.cmp .lt (.var 1) (.bi .len [(.var 0)])) (.idx (.var 0) (.var 1)) (.cst (.int 0)))), (.ret (.lst [(.op .mul (.bi .abs [(.var 2)]) (.bi .int [(.cmp .ge (.bi .abs [(.var 2)]) (.op .pow (.cst (.int 10)) (.cst (.int 18))))])), (.op .add (.op .add (.op .mod (.bi .int [(.var 2)]) (.cst (.int 2305843009213693951))) (.op .mul (.cst (.int 39373)) (.var 1))) (.cst (.int 854))), (.cst (.int 0))]))]
def b__law_take : List S := [(.iff (.cmp .gt (.idx (.var 0) (.cst (.int 0))) (.cst (.int 0))) [(.set 5 false (.op .mod (.bi .int [(.idx (.var 0) (.cst (.int 0)))]) (.var 1))), (.put 0 (.cst (.int 0)) (.op .fdiv (.idx (.var 0) (.cst (.int 0))) (.var 1))), (.ret (.var 5))] []), (.put 0 (.cst (.int 2)) (.op .add (.idx (.var 0) (.cst (.int 2))) (.cst (.int 1)))), (.set 2 false (.op .mod (.bi .int [(.op .mul (.op .add (.idx (.var 0) (.cst (.int 1))) (.op .mul (.cst (.int 48271)) (.idx (.var 0) (.cst (.int 2))))) (.op .add (.cst (.int 39373)) (.idx (.var 0) (.cst (.int 2)))))]) (.cst (.int 2147483647)))), (.set 3 false (.op .add (.op .mod (.bi .int [(.var 2)]) (.cst (.int 40009))) (.cst (.int 7)))), (.set 4 false (.op .mod (.bi .int [(.op .mul (.op .add (.op .add (.var 2) (.idx (.var 0) (.cst (.int 2)))) (.op .fdiv (.idx (.var 0) (.cst (.int 1))) (.cst (.int 1000003)))) (.var 3))]) (.cst (.int 2147483629)))), (.ret (.op .mod (.bi .int [(.op .fdiv (.op .mod (.bi .int [(.op .add (.op .mul (.var 4) (.cst (.int 48271))) (.var 2))]) (.cst (.int 2147483587))) (.cst (.int 64)))]) (.var 1)))]
def b__law_cells : List S := [(.set 2 true (.bor [(.bi .list [(.slU (.var 0) (.var 1))]), (.lst [(.cst (.int 0))])])), (.for (.tp [(.nm 3), (.nm 4)]) .enum [(.slLU (.var 0) (.var 1) (.cst (.int 63)))] [(.set 5 false (.op .mod (.bi .int [(.var 3)]) (.var 1))), (.put 2 (.var 5) (.op .add (.idx (.var 2) (.var 5)) (.op .mul (.var 4) (.op .add (.var 3) (.cst (.int 2))))))]), (.ret (.var 2))]
def b__law_of : List S := [(.ret (.idx (.var 1) (.call 22 [(.var 0), (.bi .len [(.var 1)])])))]
def b__law_pick : List S := [(.par [(4, true), (5, true)] [(.bi .list [(.var 1)]), (.lst [])]), (.for (.nm 3) .range [(.bi .min2 [(.var 2), (.bi .len [(.var 4)])])] [(.app 5 (.pop 4 (.call 22 [(.var 0), (.bi .len [(.var 4)])])))]), (.ret (.var 5))]
def b__law_lists : List S := [(.ret (.ite (.isi (.var 0) [.list, .tuple]) (.lc [1] (.nm 1) .seq [(.var 0)] [] (.call 26 [(.var 1)])) (.var 0)))]
def b__law_same : List S := [(.iff (.isi (.var 1) [.list, .tuple]) [(.iff (.bor [(.cmp .ne (.isi (.var 0) [.list]) (.isi (.var 1) [.list])), (.cmp .ne (.isi (.var 0) [.tuple]) (.isi (.var 1) [.tuple]))]) [(.ret (.cst (.bool false)))] []), (.ret (.band [(.cmp .eq (.bi .len [(.var 0)]) (.bi .len [(.var 1)])), (.bi .all [(.lc [3, 4] (.tp [(.nm 3), (.nm 4)]) .zip [(.var 0), (.var 1)] [] (.call 27 [(.var 3), (.var 4)]))])]))] []), (.iff (.isi (.var 1) [.dict]) [(.iff (.bor [(.not (.isi (.var 0) [.dict])), (.cmp .ne (.bi .sorted [(.var 0)]) (.bi .sorted [(.var 1)]))]) [(.ret (.cst (.bool false)))] []), (.ret (.bi .all [(.lc [2] (.nm 2) .seq [(.var 1)] [] (.call 27 [(.idx (.var 0) (.var 2)), (.idx (.var 1) (.var 2))]))]))] []), (.iff (.bor [(.isN (.var 1)), (.isi (.var 1) [.bool, .str])]) [(.ret (.band [(.cmp .eq (.var 0) (.var 1)), (.cmp .eq (.isi (.var 0) [.bool]) (.isi (.var 1) [.bool])), (.cmp .eq (.isN (.var 0)) (.isN (.var 1)))]))] []), (.ret (.band [(.isi (.var 0) [.int]), (.not (.isi (.var 0) [.bool])), (.cmp .eq (.var 0) (.var 1))]))]
def b__law_form : List S := [(.par [(4, true), (5, true)] [(.lst [(.cst (.str "sa")), (.cst (.str "sb")), (.cst (.str "sc"))]), (.lst [])]), (.par [(6, false), (7, false)] [(.call 25 [(.var 0), (.bi .list [(.cst (.str "abcdefgh"))]), (.var 1)]), (.call 25 [(.var 0), (.bi .list [(.cst (.str "abcdefgh"))]), (.var 1)])]), (.for (.nm 3) .range [(.op .add (.cst (.int 1)) (.call 22 [(.var 0), (.var 1)]))] [(.par [(9, false), (10, false)] [(.op .add (.cst (.str "p")) (.idx (.var 6) (.var 3))), (.idx (.var 7) (.var 3))]), (.set 8 false (.bi .tuple [(.lc [16] (.nm 16) .range [(.call 22 [(.var 0), (.cst (.int 4))])] [] (.call 24 [(.var 0), (.var 4)]))])), (.par [(11, false), (12, false)] [(.call 24 [(.var 0), (.lst [(.cst (.str "ma")), (.cst (.str "mb")), (.cst (.str "mc"))])]), (.ite (.cmp .ne (.var 2) (.tup [])) (.call 22 [(.var 0), (.cst (.int 4))]) (.cst (.int 3)))]), (.iff (.band [(.cmp .eq (.var 12) (.cst (.int 0))), (.cmp .lt (.bi .len [(.var 5)]) (.op .sub (.var 1) (.cst (.int 1))))]) [(.set 13 false (.call 24 [(.var 0), (.var 2)])), (.set 14 false (.bi .tuple [(.lc [16] (.nm 16) .range [(.call 22 [(.var 0), (.cst (.int 3))])] [] (.call 24 [(.var 0), (.var 4)]))])), (.app 5 (.tup [(.op .add (.cst (.str "t")) (.var 10)), (.var 11), (.var 8), (.var 9), (.tup [(.tup [(.var 13), (.cst (.int 0))])])])), (.app 5 (.tup [(.op .add (.cst (.str "u")) (.var 10)), (.call 24 [(.var 0), (.lst [(.cst (.str "ma")), (.cst (.str "mb"))])]), (.var 14), (.var 9), (.tup [(.tup [(.var 13), (.cst (.int 1))])])])), (.app 4 (.var 9))] [(.iff (.cmp .lt (.bi .len [(.var 5)]) (.var 1)) [(.set 15 false (.ite (.cmp .eq (.var 12) (.cst (.int 1))) (.tup [(.tup [(.call 24 [(.var 0), (.var 2)]), (.call 22 [(.var 0), (.cst (.int 2))])])]) (.tup []))), (.app 5 (.tup [(.op .add (.cst (.str "t")) (.var 10)), (.var 11), (.var 8), (.var 9), (.var 15)])), (.app 4 (.var 9))] [])])]), (.ret (.bi .tuple [(.bi .sorted [(.var 5)])]))]
def b__law_heard : List S := [(.par [(4, false), (5, false)] [(.cst .none), (.cst .none)]), (.tryx (.iff (.cmp .eq (.var 0) (.cst (.int 0))) (.set 5 false (.call 10 [(.var 1), (.var 2)])) (.iff (.cmp .eq (.var 0) (.cst (.int 1))) (.set 5 false (.call 19 [(.var 1), (.var 2)])) (.set 5 false (.call 18 [(.var 1), (.var 2)])))) [⟨2, 0, 3, false, 4, [(.cst (.str "none")), .fld, (.isi true true), (.isi false false)]⟩, ⟨2, 1, 3, false, 4, [(.cst (.str "twice")), .fld, (.isi false true)]⟩]), (.ret (.ite (.isN (.var 4)) (.var 5) (.var 4)))]
def b__law_holds : List S := [(.ret (.cmp .eq (.lc [2] (.nm 2) .seq [(.var 0)] [(.cmp .ne (.cmp .isin (.idx (.var 2) (.cst (.int 0))) (.var 1)) (.cmp .eq (.idx (.var 2) (.cst (.int 1))) (.cst (.int 1))))] (.var 2)) (.lst [])))]
def b__law_case_right : List S := [(.par [(9, false), (10, false), (11, false)] [(.call 26 [(.var 0)]), (.lst []), (.lst [])]), (.for (.nm 1) .seq [(.var 0)] [(.set 10 false (.op .add (.var 10) (.lc [17] (.nm 17) .seq [(.idx (.var 1) (.cst (.int 4)))] [] (.idx (.var 17) (.cst (.int 0)))))), (.set 11 false (.op .add (.op .add (.var 11) (.bi .list [(.idx (.var 1) (.cst (.int 2)))])) (.lst [(.idx (.var 1) (.cst (.int 3)))])))]), (.set 2 false (.lst [(.tup [])])), (.for (.nm 3) .seq [(.bi .sortedset [(.var 10)])] [(.set 2 false (.op .add (.var 2) (.lc [1] (.nm 1) .seq [(.var 2)] [] (.op .add (.var 1) (.tup [(.var 3)])))))]), (.set 4 true (.lst [(.bi .list [(.call 11 [(.var 9)])]), (.bi .list [(.call 13 [(.var 9)])]), (.bi .list [(.call 12 [(.var 9)])]), (.call 14 [(.var 9)])])), (.set 5 false (.lst [(.bi .sortedset [(.var 10)]), (.bi .sortedset [(.var 11)]), (.bi .sortedset [(.lc [1] (.nm 1) .seq [(.var 0)] [] (.idx (.var 1) (.cst (.int 1))))]), (.bi .sorted [(.var 2)])])), (.for (.nm 6) .seq [(.var 2)] [(.set 12 false (.lc [1] (.nm 1) .seq [(.var 0)] [(.call 30 [(.idx (.var 1) (.cst (.int 4))), (.var 6)])] (.var 1))), (.par [(14, false), (15, false)] [(.lc [1] (.nm 1) .seq [(.var 12)] [] (.idx (.var 1) (.cst (.int 3)))), (.lst [])]), (.for (.nm 1) .seq [(.var 12)] [(.set 15 false (.op .add (.var 15) (.lc [16] (.nm 16) .seq [(.idx (.var 1) (.cst (.int 2)))] [(.cmp .notin (.var 16) (.var 14))] (.var 16))))]), (.set 4 true (.op .add (.var 4) (.lst [(.call 9 [(.var 9), (.var 6)]), (.bi .list [(.call 15 [(.var 9), (.var 6)])])]))), (.app 4 (.bi .list [(.call 16 [(.var 9), (.bi .list [(.var 6)])])])), (.set 5 false (.op .add (.var 5) (.lst [(.bi .tuple [(.var 12)]), (.bi .sortedset [(.var 14)]), (.bi .sortedset [(.var 15)])]))), (.app 4 (.lc [16] (.nm 16) .seq [(.bi .sortedset [(.var 11)])] [] (.call 17 [(.var 9), (.var 6), (.var 16)]))), (.app 4 (.lc [1] (.nm 1) .seq [(.var 0)] [] (.call 8 [(.idx (.var 1) (.cst (.int 4))), (.var 6)]))), (.set 13 false (.lc [16] (.nm 16) .seq [(.bi .sortedset [(.var 11)])] [] (.lc [1] (.nm 1) .seq [(.var 12)] [(.cmp .eq (.idx (.var 1) (.cst (.int 3))) (.var 16))] (.var 1)))), (.set 5 false (.op .add (.var 5) (.lst [(.lc [1] (.nm 1) .seq [(.var 13)] [] (.ite (.cmp .ne (.var 1) (.lst [])) (.idx (.var 1) (.cst (.int 0))) (.cst .none))), (.lc [1] (.nm 1) .seq [(.var 0)] [] (.cmp .isin (.var 1) (.var 12)))])))]), (.set 7 false (.tup [(.cst (.str "zz")), (.cst (.str "m")), (.tup [(.cst (.str "sa"))]), (.cst (.str "pz")), (.tup [])])), (.set 4 true (.op .add (.var 4) (.lst [(.call 29 [(.cst (.int 0)), (.var 9), (.cst (.str "zz"))]), (.call 29 [(.cst (.int 1)), (.var 9), (.cst (.str "zz"))]), (.call 18 [(.var 9), (.var 7)])]))), (.app 4 (.cmp .eq (.var 9) (.call 26 [(.var 0)]))), (.set 8 false (.lst [(.cst (.str "none")), (.cst (.str "zz")), (.cst (.bool true)), (.cst (.bool false))])), (.set 5 false (.op .add (.var 5) (.lst [(.var 8), (.var 8), (.op .add (.var 0) (.tup [(.var 7)])), (.cst (.bool true))]))), (.for (.nm 1) .seq [(.var 0)] [(.set 4 true (.op .add (.var 4) (.lst [(.call 10 [(.var 9), (.idx (.var 1) (.cst (.int 0)))]), (.call 19 [(.var 9), (.idx (.var 1) (.cst (.int 0)))])]))), (.app 4 (.call 29 [(.cst (.int 2)), (.var 9), (.tup [(.idx (.var 1) (.cst (.int 0))), (.cst (.str "m")), (.tup []), (.cst (.str "x")), (.tup [])])])), (.set 5 false (.op .add (.var 5) (.lst [(.var 1), (.bi .tuple [(.lc [18] (.nm 18) .seq [(.var 0)] [(.cmp .ne (.var 18) (.var 1))] (.var 18))]), (.lst [(.cst (.str "twice")), (.idx (.var 1) (.cst (.int 0))), (.cst (.bool true))])])))]), (.ret (.call 27 [(.var 4), (.var 5)]))]
def b__law_hand_right : List S := [(.set 0 false (.tup [(.tup [(.cst (.str "draft")), (.cst (.str "sum")), (.tup [(.cst (.str "in")), (.cst (.str "old"))]), (.cst (.str "out")), (.tup [(.tup [(.cst (.str "fast")), (.cst (.int 0))])])])])), (.set 0 false (.op .add (.var 0) (.tup [(.tup [(.cst (.str "quick")), (.cst (.str "guess")), (.tup [(.cst (.str "in"))]), (.cst (.str "out")), (.tup [(.tup [(.cst (.str "fast")), (.cst (.int 1))])])]), (.tup [(.cst (.str "tell")), (.cst (.str "sum")), (.tup [(.cst (.str "out")), (.cst (.str "out"))]), (.cst (.str "page")), (.tup [])])]))), (.set 1 true (.lst [(.call 15 [(.var 0), (.tup [])]), (.call 16 [(.var 0), (.tup [])]), (.call 16 [(.var 0), (.tup [(.cst (.str "fast"))])])])), (.set 1 true (.op .add (.var 1) (.lst [(.idx (.call 17 [(.var 0), (.tup [(.cst (.str "fast"))]), (.cst (.str "out"))]) (.cst (.int 0))), (.call 17 [(.var 0), (.tup []), (.cst (.str "old"))]), (.idx (.call 10 [(.var 0), (.cst (.str "tell"))]) (.cst (.int 3)))]))), (.set 2 true (.lst [(.tup [(.cst (.str "out")), (.cst (.str "page"))]), (.tup [(.cst (.str "in")), (.cst (.str "old"))]), (.tup [(.cst (.str "in"))]), (.cst (.str "quick")), (.cst .none), (.cst (.str "page"))])), (.app 1 (.call 8 [(.tup [(.tup [(.cst (.str "a")), (.cst (.int 1))]), (.tup [(.cst (.str "b")), (.cst (.int 0))])]), (.tup [(.cst (.str "a"))])])), (.app 1 (.callk 8 [1, 0] [(.tup [(.cst (.str "a")), (.cst (.str "b"))]), (.tup [(.tup [(.cst (.str "a")), (.cst (.int 1))]), (.tup [(.cst (.str "b")), (.cst (.int 0))])])])), (.set 1 true (.op .add (.var 1) (.lst [(.call 8 [(.tup []), (.tup [(.cst (.str "a"))])]), (.call 8 [(.tup [(.tup [(.cst (.str "a")), (.cst (.int 0))])]), (.tup [])])]))), (.set 2 true (.op .add (.var 2) (.lst [(.cst (.bool true)), (.cst (.bool false)), (.cst (.bool true)), (.cst (.bool true))]))), (.app 1 (.call 20 [(.slL (.var 0) (.cst (.int 2))), (.tup [(.tup [(.cst (.str "out")), (.cst (.str "a"))]), (.tup [(.cst (.str "page")), (.cst (.str "out"))])])])), (.app 1 (.idx (.callk 20 [1, 0] [(.lst [(.lst [(.cst (.str "in")), (.cst (.str "x"))])]), (.call 26 [(.var 0)])]) (.cst (.int 1)))), (.app 1 (.call 20 [(.tup []), (.tup [(.tup [(.cst (.str "a")), (.cst (.str "b"))])])])), (.app 2 (.tup [(.tup [(.cst (.str "tell")), (.cst (.str "sum")), (.tup [(.cst (.str "a")), (.cst (.str "a"))]), (.cst (.str "out")), (.tup [])])])), (.app 2 (.tup [(.cst (.str "quick")), (.cst (.str "guess")), (.tup [(.cst (.str "x"))]), (.cst (.str "out")), (.tup [(.tup [(.cst (.str "fast")), (.cst (.int 1))])])])), (.app 2 (.tup [])), (.set 1 true (.op .add (.var 1) (.lst [(.callk 9 [1, 0] [(.lst [(.cst (.str "fast"))]), (.var 0)]), (.callk 15 [1, 0] [(.tup []), (.slU (.var 0) (.cst (.int 1)))])]))), (.set 1 true (.op .add (.var 1) (.lst [(.callk 16 [1, 0] [(.tup []), (.slL (.var 0) (.cst (.int 2)))]), (.callk 17 [2, 1, 0] [(.cst (.str "page")), (.tup []), (.var 0)])]))), (.set 2 true (.op .add (.var 2) (.lst [(.slL (.var 0) (.cst (.int 1))), (.tup [(.cst (.str "out"))]), (.tup [(.cst (.str "out"))]), (.idx (.var 0) (.cst (.int 2)))]))), (.set 1 true (.op .add (.var 1) (.lst [(.callk 10 [1, 0] [(.cst (.str "draft")), (.call 26 [(.var 0)])]), (.callk 19 [1, 0] [(.cst (.str "draft")), (.var 0)])]))), (.set 1 true (.op .add (.var 1) (.lst [(.callk 18 [1, 0] [(.call 26 [(.idx (.var 0) (.cst (.int 0)))]), (.slL (.var 0) (.cst (.int 1)))]), (.callk 11 [0] [(.tup [])])]))), (.app 1 (.callk 12 [0] [(.var 0)])), (.set 2 true (.op .add (.var 2) (.lst [(.idx (.var 0) (.cst (.int 0))), (.slL (.var 0) (.cst (.int 1))), (.var 0), (.tup []), (.tup [(.cst (.str "guess")), (.cst (.str "sum"))])]))), (.iff (.bor [(.not (.call 27 [(.var 1), (.var 2)])), (.not (.call 33 []))]) [(.ret (.cst (.bool false)))] []), (.ret (.band [(.call 31 [(.var 0)]), (.call 31 [(.tup [])])]))]
def b__law_odd_right : List S := [(.par [(2, true), (3, true)] [(.lst []), (.lst [])]), (.set 0 false (.tup [(.tup [(.cst (.str "out")), (.cst (.str "out")), (.tup [(.cst (.str "in"))]), (.cst (.str "out")), (.tup [(.tup [(.cst (.str "out")), (.cst (.int 1))])])])])), (.app 2 (.call 20 [(.var 0), (.tup [(.tup [(.cst (.str "out")), (.cst (.str "a"))])])])), (.app 2 (.call 20 [(.var 0), (.tup [(.tup [(.cst (.str "out")), (.cst (.str "in"))]), (.tup [(.cst (.str "in")), (.cst (.str "out"))])])])), (.app 3 (.tup [(.tup [(.cst (.str "out")), (.cst (.str "out")), (.tup [(.cst (.str "in"))]), (.cst (.str "a")), (.tup [(.tup [(.cst (.str "out")), (.cst (.int 1))])])])])), (.app 3 (.tup [(.tup [(.cst (.str "out")), (.cst (.str "out")), (.tup [(.cst (.str "out"))]), (.cst (.str "in")), (.tup [(.tup [(.cst (.str "out")), (.cst (.int 1))])])])])), (.set 1 false (.tup [(.lst [(.cst (.str "a")), (.cst (.str "m")), (.lst [(.cst (.str "y"))]), (.cst (.str "x")), (.lst [(.lst [(.cst (.str "f")), (.cst (.int 1))])])]), (.tup [(.cst (.str "b")), (.cst (.str "m")), (.tup [(.cst (.str "x"))]), (.cst (.str "y")), (.tup [])]), (.tup [(.cst (.str "c")), (.cst (.str "n")), (.tup []), (.cst (.str "x")), (.tup [])])])), (.set 2 true (.op .add (.var 2) (.lst [(.call 13 [(.var 1)]), (.call 14 [(.var 1)]), (.lc [4] (.nm 4) .seq [(.call 9 [(.var 1), (.tup [(.cst (.str "f"))])])] [] (.idx (.var 4) (.cst (.int 0))))]))), (.set 2 true (.op .add (.var 2) (.lst [(.call 17 [(.var 1), (.tup [(.cst (.str "f"))]), (.cst (.str "x"))]), (.call 16 [(.var 1), (.tup [(.cst (.str "f"))])]), (.call 7 [(.call 26 [(.var 1)])])]))), (.set 2 true (.op .add (.var 2) (.lst [(.callk 13 [0] [(.var 1)]), (.callk 14 [0] [(.var 1)])]))), (.set 3 true (.op .add (.var 3) (.lst [(.tup [(.cst (.str "x")), (.cst (.str "y"))]), (.lst [(.tup []), (.tup [(.cst (.str "f"))])]), (.lst [(.cst (.str "a")), (.cst (.str "b")), (.cst (.str "c"))]), (.tup [(.cst (.str "a")), (.cst (.str "m")), (.tup [(.cst (.str "y"))]), (.cst (.str "x")), (.tup [(.tup [(.cst (.str "f")), (.cst (.int 1))])])]), (.tup [])]))), (.set 3 true (.op .add (.var 3) (.lst [(.cst (.bool false)), (.tup [(.cst (.str "x")), (.cst (.str "y"))]), (.lst [(.tup []), (.tup [(.cst (.str "f"))])])]))), (.ret (.call 27 [(.var 2), (.var 3)]))]
def b__law_right : List S := [(.ret (.bi .all [(.lc [1] (.nm 1) .range [(.cst (.int 3))] [] (.call 31 [(.call 28 [(.var 0), (.cst (.int 7)), (.tup [(.cst (.str "fa")), (.cst (.str "fb"))])])]))]))]
def b_law : List S := [(.iff (.not (.call 32 [])) [(.ret (.cst (.bool false)))] []), (.set 1 false (.call 23 [(.var 0), (.cst (.int 3))])), (.ret (.bi .all [(.lc [2] (.nm 2) .range [(.bi .len [(.var 1)])] [] (.callc 34 [(.cell (.call 21 [(.var 1), (.var 2)]))]))]))]
def d_is_number : Df := ⟨"is_number", ["thing"], ["thing"], defArgs (top 5), defBody (top 5), defScope (top 5), b_is_number, []⟩
def d_is_name : Df := ⟨"is_name", ["thing"], ["thing", "letter"], defArgs (top 6), defBody (top 6), defScope (top 6), b_is_name, []⟩
def d_tupled : Df := ⟨"tupled", ["thing"], ["thing", "part"], defArgs (top 7), defBody (top 7), defScope (top 7), b_tupled, []⟩
def d_rises : Df := ⟨"rises", ["thing"], ["thing", "one", "other"], defArgs (top 8), defBody (top 8), defScope (top 8), b_rises, []⟩
def d_set_of : Df := ⟨"set_of", ["things"], ["things"], defArgs (top 9), defBody (top 9), defScope (top 9), b_set_of, []⟩
def d_is_condition : Df := ⟨"is_condition", ["thing"], ["thing", "flag", "on", "own"], defArgs (top 11), defBody (top 11), defScope (top 11), b_is_condition, []⟩
def d_is_step : Df := ⟨"is_step", ["thing"], ["thing", "name", "method", "reads", "sheet", "condition", "own"], defArgs (top 12), defBody (top 12), defScope (top 12), b_is_step, []⟩
def d_is_plan : Df := ⟨"is_plan", ["thing"], ["thing", "step", "own"], defArgs (top 13), defBody (top 13), defScope (top 13), b_is_plan, []⟩
def d_holds : Df := ⟨"holds", ["condition", "variant"], ["condition", "variant", "flag", "on"], defArgs (top 14), defBody (top 14), defScope (top 14), b_holds, [(["variant", "condition"], [1, 0])]⟩
def d_running : Df := ⟨"running", ["plan", "variant"], ["plan", "variant", "step"], defArgs (top 15), defBody (top 15), defScope (top 15), b_running, [(["variant", "plan"], [1, 0])]⟩
def d_step_of : Df := ⟨"step_of", ["plan", "name"], ["plan", "name", "found", "step"], defArgs (top 16), defBody (top 16), defScope (top 16), b_step_of, [(["name", "plan"], [1, 0])]⟩
def d_flags_in : Df := ⟨"flags_in", ["plan"], ["plan", "step", "flag", "on"], defArgs (top 17), defBody (top 17), defScope (top 17), b_flags_in, [(["plan"], [0])]⟩
def d_methods_in : Df := ⟨"methods_in", ["plan"], ["plan", "step"], defArgs (top 18), defBody (top 18), defScope (top 18), b_methods_in, [(["plan"], [0])]⟩
def d_sheets_in : Df := ⟨"sheets_in", ["plan"], ["plan", "step", "sheet"], defArgs (top 19), defBody (top 19), defScope (top 19), b_sheets_in, [(["plan"], [0])]⟩
def d_variants_of : Df := ⟨"variants_of", ["plan"], ["plan", "found", "flag", "own"], defArgs (top 20), defBody (top 20), defScope (top 20), b_variants_of, [(["plan"], [0])]⟩
def d_made_at : Df := ⟨"made_at", ["plan", "variant"], ["plan", "variant", "step"], defArgs (top 21), defBody (top 21), defScope (top 21), b_made_at, [(["variant", "plan"], [1, 0])]⟩
def d_counts_needed : Df := ⟨"counts_needed", ["plan", "variant"], ["plan", "variant", "made", "step", "sheet"], defArgs (top 22), defBody (top 22), defScope (top 22), b_counts_needed, [(["variant", "plan"], [1, 0])]⟩
def d_maker : Df := ⟨"maker", ["plan", "variant", "sheet"], ["plan", "variant", "sheet", "found", "step"], defArgs (top 23), defBody (top 23), defScope (top 23), b_maker, [(["sheet", "variant", "plan"], [2, 1, 0])]⟩
def d_with_step : Df := ⟨"with_step", ["plan", "step"], ["plan", "step", "own"], defArgs (top 24), defBody (top 24), defScope (top 24), b_with_step, [(["step", "plan"], [1, 0])]⟩
def d_without_step : Df := ⟨"without_step", ["plan", "name"], ["plan", "name", "step"], defArgs (top 25), defBody (top 25), defScope (top 25), b_without_step, [(["name", "plan"], [1, 0])]⟩
def d_renamed_sheets : Df := ⟨"renamed_sheets", ["plan", "pairs"], ["plan", "pairs", "fresh", "found", "name", "method", "reads", "sheet", "condition", "old", "new", "own"], defArgs (top 26), defBody (top 26), defScope (top 26), b_renamed_sheets, [(["pairs", "plan"], [1, 0])]⟩
def d__law_box : Df := ⟨"_law_box", ["_law_script", "_law_k"], ["_law_script", "_law_k", "_law_great_so"], defArgs (top 28), defBody (top 28), defScope (top 28), b__law_box, []⟩
def d__law_take : Df := ⟨"_law_take", ["_law_tin", "_law_top_so"], ["_law_tin", "_law_top_so", "_law_once", "_law_far", "_law_twice", "_law_digit_so"], defArgs (top 29), defBody (top 29), defScope (top 29), b__law_take, []⟩
def d__law_cells : Df := ⟨"_law_cells", ["_law_script", "_law_most"], ["_law_script", "_law_most", "_law_cells_here", "_law_k", "_law_great_so", "_law_at_so"], defArgs (top 30), defBody (top 30), defScope (top 30), b__law_cells, []⟩
def d__law_of : Df := ⟨"_law_of", ["_law_tin", "_law_lot"], ["_law_tin", "_law_lot"], defArgs (top 31), defBody (top 31), defScope (top 31), b__law_of, []⟩
def d__law_pick : Df := ⟨"_law_pick", ["_law_tin", "_law_pool", "_law_size_so"], ["_law_tin", "_law_pool", "_law_size_so", "_law_turn", "_law_rest", "_law_lot"], defArgs (top 32), defBody (top 32), defScope (top 32), b__law_pick, []⟩
def d__law_lists : Df := ⟨"_law_lists", ["_law_matter"], ["_law_matter", "_law_bit"], defArgs (top 33), defBody (top 33), defScope (top 33), b__law_lists, []⟩
def d__law_same : Df := ⟨"_law_same", ["_law_got", "_law_due"], ["_law_got", "_law_due", "_law_lot_so", "_law_mine", "_law_its"], defArgs (top 34), defBody (top 34), defScope (top 34), b__law_same, []⟩
def d__law_form : Df := ⟨"_law_form", ["_law_tin", "_law_many", "_law_flags_so"], ["_law_tin", "_law_many", "_law_flags_so", "_law_k", "_law_ahead", "_law_found", "_law_pages", "_law_letters", "_law_reads_so", "_law_page", "_law_letter", "_law_tool", "_law_sort", "_law_flag", "_law_twice", "_law_on_so", "_law_lap"], defArgs (top 35), defBody (top 35), defScope (top 35), b__law_form, []⟩
def d__law_heard : Df := ⟨"_law_heard", ["_law_door_so", "_law_form_here", "_law_key"], ["_law_door_so", "_law_form_here", "_law_key", "error", "_law_caught", "_law_told"], defArgs (top 36), defBody (top 36), defScope (top 36), b__law_heard, []⟩
def d__law_holds : Df := ⟨"_law_holds", ["_law_on_so", "_law_flags_so"], ["_law_on_so", "_law_flags_so", "_law_pair"], defArgs (top 37), defBody (top 37), defScope (top 37), b__law_holds, []⟩
def d__law_case_right : Df := ⟨"_law_case_right", ["_law_form_here"], ["_law_form_here", "_law_own", "_law_every", "_law_flag", "_law_got", "_law_due", "_law_flags_so", "_law_fresh", "_law_bare_so", "_law_soft", "_law_flags", "_law_pages", "_law_on_so", "_law_firsts", "_law_made", "_law_need_so", "_law_page", "_law_pair", "_law_mate"], defArgs (top 38), defBody (top 38), defScope (top 38), b__law_case_right, []⟩
def d__law_hand_right : Df := ⟨"_law_hand_right", [], ["_law_form_here", "_law_got", "_law_due"], defArgs (top 39), defBody (top 39), defScope (top 39), b__law_hand_right, []⟩
def d__law_odd_right : Df := ⟨"_law_odd_right", [], ["_law_alone", "_law_odd", "_law_got", "_law_due", "_law_own"], defArgs (top 40), defBody (top 40), defScope (top 40), b__law_odd_right, []⟩
def d__law_right : Df := ⟨"_law_right", ["_law_tin"], ["_law_tin", "_law_turn"], defArgs (top 41), defBody (top 41), defScope (top 41), b__law_right, []⟩
def d_law : Df := ⟨"law", ["_law_script"], ["_law_script", "_law_cells_here", "_law_k"], defArgs (top 42), defBody (top 42), defScope (top 42), b_law, []⟩
def D : List Df := [d_is_number, d_is_name, d_tupled, d_rises, d_set_of, d_is_condition, d_is_step, d_is_plan, d_holds, d_running, d_step_of, d_flags_in, d_methods_in, d_sheets_in, d_variants_of, d_made_at, d_counts_needed, d_maker, d_with_step, d_without_step, d_renamed_sheets, d__law_box, d__law_take, d__law_cells, d__law_of, d__law_pick, d__law_lists, d__law_same, d__law_form, d__law_heard, d__law_holds, d__law_case_right, d__law_hand_right, d__law_odd_right, d__law_right, d_law]
def free : List Str := ["LookupError", "ValueError", "abs", "all", "bool", "dict", "enumerate", "int", "isinstance", "len", "list", "min", "range", "set", "sorted", "str", "super", "tuple", "zip"]
def glo : List (Str × PyData) := [("LETTERS", (.str "abcdefghijklmnopqrstuvwxyz"))]
def xs : List XCl := [⟨"NoStep", true, some "name"⟩, ⟨"Twice", false, some "name"⟩]
theorem chk : D.all (dfB D free glo xs) = true := by decide +kernel
end K1


set_option Elab.async false
set_option linter.all false
set_option autoImplicit false
set_option maxRecDepth 100000
/-! the evaluator, read by simp -/
namespace Ra.M
open PySem
section
variable (call : Call) (wf : Nat) (env : Env) (m : Mem)
@[simp] theorem nf_d (x : PyData) : Val.nf (.d x) = .d x := rfl
@[simp] theorem nf_fr (xs : List PyData) : Val.nf (.fr xs) = .d (.list xs) := rfl
@[simp] theorem nf_mr (k : Nat) : Val.nf (.mr k) = .mr k := rfl
@[simp] theorem rdR_d (x : PyData) : rdR m (.d x) = .ok x m := rfl
@[simp] theorem rdR_fr (xs : List PyData) : rdR m (.fr xs) = .ok (.list xs) m := rfl
theorem rdR_mr {k : Nat} {c : Cell} (h : m[k]? = some c) : rdR m (.mr k) = .ok (.list c.xs) m := by
  show optR ((m[k]?).map fun c => PyData.list c.xs) m = _
  rw [h]; rfl
@[simp] theorem frz_d (x : PyData) : frz (.d x) m = .ok x m := rfl
@[simp] theorem frz_fr (xs : List PyData) : frz (.fr xs) m = .ok (.list xs) m := rfl
@[simp] theorem truR_bool (b : Bool) : truR (.d (.bool b)) m = .ok b m := rfl
@[simp] theorem truR_d (x : PyData) : truR (.d x) m = optR (truth x) m := rfl
@[simp] theorem truR_fr (xs : List PyData) : truR (.fr xs) m = .ok (!xs.isEmpty) m := rfl
@[simp] theorem truth_bool (b : Bool) : truth (.bool b) = some b := rfl
@[simp] theorem truth_list (xs : List PyData) : truth (.list xs) = some (!xs.isEmpty) := rfl
@[simp] theorem truth_tuple (xs : List PyData) : truth (.tuple xs) = some (!xs.isEmpty) := rfl
@[simp] theorem boolR_eq (b : Bool) : boolR b m = .ok (.d (.bool b)) m := rfl
@[simp] theorem intR_int (i : Int) : intR (.int i) m = .ok i m := rfl
@[simp] theorem mkCell_fr (xs : List PyData) : mkCell (.fr xs) m = .ok (.mr m.length) (m ++ [⟨false, xs⟩]) := rfl
@[simp] theorem mkCell_mr (k : Nat) : mkCell (.mr k) m = .ok (.mr k) m := rfl
@[simp] theorem mkCell_d (x : PyData) : mkCell (.d x) m = .ok (.d x) m := rfl
@[simp] theorem stored_f (v : Val) : stored false v m = .ok v.nf m := rfl
@[simp] theorem stored_t (v : Val) : stored true v m = mkCell v m := rfl
@[simp] theorem getV_zero (v : Option Val) (r : Env) : getV (v :: r) 0 = v := by simp [getV]
@[simp] theorem getV_succ (v : Option Val) (r : Env) (i : Nat) : getV (v :: r) (i + 1) = getV r i := by simp [getV]
@[simp] theorem setV_zero (u : Option Val) (r : Env) (v : Val) : setV (u :: r) 0 v = some v :: r := rfl
@[simp] theorem setV_succ (u : Option Val) (r : Env) (i : Nat) (v : Val) : setV (u :: r) (i + 1) v = u :: setV r i v := rfl
/-! expressions -/
variable (e a b c i lo hi : E) (es src tests : List E)
@[simp] theorem v_var (k : Nat) : (sem call (.var k)).v env m = optR (getV env k) m := rfl
@[simp] theorem t_var (k : Nat) : (sem call (.var k)).t env m = (optR (getV env k) m).bind truR := rfl
@[simp] theorem v_cst (x : PyData) : (sem call (.cst x)).v env m = .ok (.d x) m := rfl
@[simp] theorem t_cst (x : PyData) : (sem call (.cst x)).t env m = optR (truth x) m := rfl
@[simp] theorem v_glo (x : PyData) : (sem call (.glo x)).v env m = .ok (.d x) m := rfl
@[simp] theorem v_tup : (sem call (.tup es)).v env m = (cItems (sems call es) env m).bind fun xs m1 => .ok (.d (.tuple xs)) m1 := rfl
@[simp] theorem v_lst : (sem call (.lst es)).v env m = (cItems (sems call es) env m).bind fun xs m1 => .ok (.fr xs) m1 := rfl
@[simp] theorem v_call (f : Nat) : (sem call (.call f es)).v env m = (cArgs (sems call es) env m).bind fun vs m1 => call f vs m1 := rfl
@[simp] theorem t_call (f : Nat) : (sem call (.call f es)).t env m = ((cArgs (sems call es) env m).bind fun vs m1 => call f vs m1).bind truR := rfl
@[simp] theorem v_callk (f : Nat) (is : List Nat) : (sem call (.callk f is es)).v env m = (cArgs (sems call es) env m).bind fun vs m1 => call f (pick is vs) m1 := rfl
@[simp] theorem v_callc (f : Nat) : (sem call (.callc f es)).v env m = (cArgs (sems call es) env m).bind fun vs m1 => (call f vs m1).bind fun v m2 => leave m.length v m2 := rfl
@[simp] theorem v_cell : (sem call (.cell e)).v env m = ((sem call e).v env m).bind mkCell := rfl
@[simp] theorem v_op (o : Bop) : (sem call (.op o a b)).v env m = ((sem call a).v env m).bind fun va m1 => ((sem call b).v env m1).bind fun vb m2 => (rdR m2 va.nf).bind fun x m3 => (rdR m3 vb.nf).bind fun y m4 => optR (bop o x y) m4 := rfl
@[simp] theorem v_neg : (sem call (.neg a)).v env m = ((sem call a).v env m).bind fun va m1 => (rdR m1 va.nf).bind fun x m => match x with
      | .int i => .ok (.d (.int (-i))) m
      | _ => .fail := rfl
@[simp] theorem v_cmp (o : Cop) : (sem call (.cmp o a b)).v env m = ((sem call a).v env m).bind fun va m1 => ((sem call b).v env m1).bind fun vb m2 => (rdR m2 va.nf).bind fun x m3 => (rdR m3 vb.nf).bind fun y m4 => (optR (cmp o x y) m4).bind boolR := rfl
@[simp] theorem t_cmp (o : Cop) : (sem call (.cmp o a b)).t env m = ((sem call (.cmp o a b)).v env m).bind truR := rfl
@[simp] theorem v_chain (o o' : Cop) : (sem call (.chain o o' a b c)).v env m = ((sem call a).v env m).bind fun va m1 => ((sem call b).v env m1).bind fun vb m2 =>
  (rdR m2 va.nf).bind fun x m3 => (rdR m3 vb.nf).bind fun y m4 => (optR (cmp o x y) m4).bind fun t m5 =>
    if t = true then ((sem call c).v env m5).bind fun vc m6 => (rdR m6 vb.nf).bind fun y' m7 => (rdR m7 vc.nf).bind fun z m8 => (optR (cmp o' y' z) m8).bind boolR
    else boolR false m5 := rfl
@[simp] theorem t_chain (o o' : Cop) : (sem call (.chain o o' a b c)).t env m = ((sem call (.chain o o' a b c)).v env m).bind truR := rfl
@[simp] theorem v_isN : (sem call (.isN a)).v env m = ((sem call a).v env m).bind fun va m1 => (rdR m1 va.nf).bind fun x m => boolR (isNone x) m := rfl
@[simp] theorem t_isN : (sem call (.isN a)).t env m = ((sem call (.isN a)).v env m).bind truR := rfl
@[simp] theorem v_isnN : (sem call (.isnN a)).v env m = ((sem call a).v env m).bind fun va m1 => (rdR m1 va.nf).bind fun x m => boolR (!isNone x) m := rfl
@[simp] theorem t_isnN : (sem call (.isnN a)).t env m = ((sem call (.isnN a)).v env m).bind truR := rfl
@[simp] theorem v_band1 : (sem call (.band [e])).v env m = (sem call e).v env m := rfl
@[simp] theorem v_band : (sem call (.band (e :: a :: es))).v env m = ((sem call e).v env m).bind fun v m1 => (truR v m1).bind fun t m2 => if t = true then (sem call (.band (a :: es))).v env m2 else .ok v m2 := rfl
@[simp] theorem t_band1 : (sem call (.band [e])).t env m = (sem call e).t env m := rfl
@[simp] theorem t_band : (sem call (.band (e :: a :: es))).t env m = ((sem call e).t env m).bind fun t m1 => if t = true then (sem call (.band (a :: es))).t env m1 else .ok false m1 := rfl
@[simp] theorem v_bor1 : (sem call (.bor [e])).v env m = (sem call e).v env m := rfl
@[simp] theorem v_bor : (sem call (.bor (e :: a :: es))).v env m = ((sem call e).v env m).bind fun v m1 => (truR v m1).bind fun t m2 => if t = true then .ok v m2 else (sem call (.bor (a :: es))).v env m2 := rfl
@[simp] theorem t_bor1 : (sem call (.bor [e])).t env m = (sem call e).t env m := rfl
@[simp] theorem t_bor : (sem call (.bor (e :: a :: es))).t env m = ((sem call e).t env m).bind fun t m1 => if t = true then .ok true m1 else (sem call (.bor (a :: es))).t env m1 := rfl
@[simp] theorem v_not : (sem call (.not a)).v env m = ((sem call a).v env m).bind fun v m1 => (truR v m1).bind fun t m2 => boolR (!t) m2 := rfl
@[simp] theorem t_not : (sem call (.not a)).t env m = ((sem call a).t env m).bind fun t m1 => .ok (!t) m1 := rfl
@[simp] theorem v_ite : (sem call (.ite c a b)).v env m = ((sem call c).t env m).bind fun t m1 => if t = true then (sem call a).v env m1 else (sem call b).v env m1 := rfl
@[simp] theorem v_idx : (sem call (.idx a i)).v env m = ((sem call a).v env m).bind fun va m1 => ((sem call i).v env m1).bind fun vb m2 => (rdR m2 va.nf).bind fun x m3 => (rdR m3 vb.nf).bind fun y m => (optR (idx x y) m).bind fun z m1 => .ok (.d z) m1 := rfl
@[simp] theorem v_sl : (sem call (.sl a)).v env m = ((sem call a).v env m).bind fun va m1 => (rdR m1 va.nf).bind fun x m => optR (slc x none none) m := rfl
def slLR (x l : PyData) (m : Mem) : Res Val := match l with
  | .int l => optR (slc x (some l) none) m
  | _ => .fail
def slUR (x l : PyData) (m : Mem) : Res Val := match l with
  | .int l => optR (slc x none (some l)) m
  | _ => .fail
@[simp] theorem slLR_int (x : PyData) (l : Int) : slLR x (.int l) m = optR (slc x (some l) none) m := rfl
@[simp] theorem slUR_int (x : PyData) (l : Int) : slUR x (.int l) m = optR (slc x none (some l)) m := rfl
@[simp] theorem v_slL : (sem call (.slL a lo)).v env m = ((sem call a).v env m).bind fun va m1 => ((sem call lo).v env m1).bind fun vb m2 => (rdR m2 va.nf).bind fun x m3 => (rdR m3 vb.nf).bind fun l m => slLR x l m := rfl
@[simp] theorem v_slU : (sem call (.slU a lo)).v env m = ((sem call a).v env m).bind fun va m1 => ((sem call lo).v env m1).bind fun vb m2 => (rdR m2 va.nf).bind fun x m3 => (rdR m3 vb.nf).bind fun l m => slUR x l m := rfl
@[simp] theorem v_slLU : (sem call (.slLU a lo hi)).v env m = ((sem call a).v env m).bind fun va m1 => ((sem call lo).v env m1).bind fun vb m2 => (rdR m2 vb.nf).bind fun y m3 => (intR y m3).bind fun l m4 =>
  ((sem call hi).v env m4).bind fun vc m5 => (rdR m5 va.nf).bind fun x m6 => (rdR m6 vc.nf).bind fun z m7 => (intR z m7).bind fun h m8 => optR (slc x (some l) (some h)) m8 := rfl
@[simp] theorem v_rev : (sem call (.rev a)).v env m = ((sem call a).v env m).bind fun va m1 => (rdR m1 va.nf).bind fun x m => optR (revd x) m := rfl
@[simp] theorem v_bi (o : Bi) : (sem call (.bi o es)).v env m = (cArgs (sems call es) env m).bind fun vs m1 => (optR (lookAll m1 vs) m1).bind fun xs m2 => optR (bi o xs) m2 := rfl
@[simp] theorem t_bi (o : Bi) : (sem call (.bi o es)).t env m = ((sem call (.bi o es)).v env m).bind truR := rfl
@[simp] theorem v_isi (cs : List Cls) : (sem call (.isi a cs)).v env m = ((sem call a).v env m).bind fun va m1 => (rdR m1 va.nf).bind fun x m => boolR (cs.any (isi x)) m := rfl
@[simp] theorem t_isi (cs : List Cls) : (sem call (.isi a cs)).t env m = ((sem call (.isi a cs)).v env m).bind truR := rfl
@[simp] theorem v_lc (own : List Nat) (t : Tg) (k : Sk) : (sem call (.lc own t k src tests e)).v env m = (srcR k (sems call src) env m).bind fun p m1 => (lcLoop t (sems call tests) (sem call e) p.2 (wipe env own) p.1 m1).bind fun ys m2 => .ok (.fr ys) m2 := rfl
@[simp] theorem nf_dv (kvs : List (PyData × PyData)) : Val.nf (.dv kvs) = .dv kvs := rfl
@[simp] theorem mkCell_dv (kvs : List (PyData × PyData)) : mkCell (.dv kvs) m = .ok (.dv kvs) m := rfl
@[simp] theorem dictR_dv (kvs : List (PyData × PyData)) : dictR (.dv kvs) m = .ok kvs m := rfl
@[simp] theorem keyR_str (z : Str) : keyR (.str z) m = .ok (.str z) m := rfl
@[simp] theorem keyR_int (z : Int) : keyR (.int z) m = .ok (.int z) m := rfl
@[simp] theorem v_tupS (bs : List Bool) : (sem call (.tupS bs es)).v env m = (cItemsS bs (sems call es) env m).bind fun xs m1 => if xs.length ≤ lim then .ok (.d (.tuple xs)) m1 else .fail := rfl
@[simp] theorem v_lstS (bs : List Bool) : (sem call (.lstS bs es)).v env m = (cItemsS bs (sems call es) env m).bind fun xs m1 => if xs.length ≤ lim then .ok (.fr xs) m1 else .fail := rfl
@[simp] theorem cItemsS_nil : cItemsS [] (sems call []) env m = .ok [] m := rfl
@[simp] theorem cItemsS_f (bs : List Bool) : cItemsS (false :: bs) (sems call (e :: es)) env m = ((sem call e).v env m).bind fun v m1 => (frz v m1).bind fun x m2 => (cItemsS bs (sems call es) env m2).bind fun xs m3 => .ok (x :: xs) m3 := rfl
@[simp] theorem cItemsS_t (bs : List Bool) : cItemsS (true :: bs) (sems call (e :: es)) env m = ((sem call e).v env m).bind fun v m1 => (rdR m1 v.nf).bind fun x m2 => (optR (seqI x) m2).bind fun ys m3 => (cItemsS bs (sems call es) env m3).bind fun xs m4 => .ok (ys ++ xs) m4 := rfl
@[simp] theorem seqI_l (xs : List PyData) : seqI (.list xs) = some xs := rfl
@[simp] theorem seqI_t (xs : List PyData) : seqI (.tuple xs) = some xs := rfl
@[simp] theorem v_dc (own : List Nat) (t : Tg) (k : Sk) (ke ve : E) : (sem call (.dc own t k src tests ke ve)).v env m = (srcR k (sems call src) env m).bind fun p m1 => (dcLoop t (sems call tests) (sem call ke) (sem call ve) p.2 (wipe env own) p.1 [] m1).bind fun ys m2 => .ok (.dv ys) m2 := rfl
def dmkR (x : PyData) (m : Mem) : Res Val := match x with
  | .list xs => (optR (pairsD xs []) m).bind fun kvs m3 => .ok (.dv kvs) m3
  | _ => .fail
@[simp] theorem dmkR_l (xs : List PyData) : dmkR (.list xs) m = (optR (pairsD xs []) m).bind fun kvs m3 => .ok (.dv kvs) m3 := rfl
@[simp] theorem v_dmk : (sem call (.dmk e)).v env m = ((sem call e).v env m).bind fun v m1 => (rdR m1 v.nf).bind fun x m2 => dmkR x m2 := rfl
@[simp] theorem v_dget (k x : E) : (sem call (.dget e k x)).v env m = ((sem call e).v env m).bind fun vd m1 => (dictR vd m1).bind fun kvs m2 => ((sem call k).v env m2).bind fun vk m3 => ((sem call x).v env m3).bind fun vx m4 =>
  (rdR m4 vk.nf).bind fun y m5 => (keyR y m5).bind fun y m6 => (frz vx m6).bind fun z m7 => .ok (.d ((dLook kvs y).getD z)) m7 := rfl
@[simp] theorem v_dat (k : E) : (sem call (.dat e k)).v env m = ((sem call e).v env m).bind fun vd m1 => (dictR vd m1).bind fun kvs m2 => ((sem call k).v env m2).bind fun vk m3 => (rdR m3 vk.nf).bind fun y m4 => (keyR y m4).bind fun y m5 => (optR (dLook kvs y) m5).bind fun z m6 => .ok (.d z) m6 := rfl
@[simp] theorem v_din (neg : Bool) (k : E) : (sem call (.din neg k e)).v env m = ((sem call k).v env m).bind fun vk m1 => ((sem call e).v env m1).bind fun vd m2 => (rdR m2 vk.nf).bind fun y m3 => (keyR y m3).bind fun y m4 => (dictR vd m4).bind fun kvs m5 => boolR (xor neg (dLook kvs y).isSome) m5 := rfl
@[simp] theorem t_din (neg : Bool) (k : E) : (sem call (.din neg k e)).t env m = ((sem call (.din neg k e)).v env m).bind truR := rfl
@[simp] theorem v_lc2 (own own1 : List Nat) (t t1 : Tg) (k k1 : Sk) (src1 tests1 : List E) : (sem call (.lc2 own own1 t k src tests t1 k1 src1 tests1 e)).v env m = (srcR k (sems call src) env m).bind fun p m1 => (lc2Loop t (sems call tests) (lcIn own1 t1 k1 (sems call src1) (sems call tests1) (sem call e)) p.2 (wipe env own) 0 p.1 m1).bind fun ys m2 => .ok (.fr ys) m2 := rfl
@[simp] theorem walk_enumT (xs : List PyData) : walk .enum [.tuple xs] = some (enumD 0 xs) := rfl
@[simp] theorem cItems_nil : cItems (sems call []) env m = .ok [] m := rfl
@[simp] theorem cItems_cons : cItems (sems call (e :: es)) env m = ((sem call e).v env m).bind fun v m1 => (frz v m1).bind fun x m2 => (cItems (sems call es) env m2).bind fun xs m3 => .ok (x :: xs) m3 := rfl
@[simp] theorem cArgs_nil : cArgs (sems call []) env m = .ok [] m := rfl
@[simp] theorem cArgs_cons : cArgs (sems call (e :: es)) env m = ((sem call e).v env m).bind fun v m1 => (cArgs (sems call es) env m1).bind fun vs m2 => .ok (v.nf :: vs) m2 := rfl
@[simp] theorem tAll_nil : tAll (sems call []) env m = .ok true m := rfl
@[simp] theorem tAll_one : tAll (sems call [e]) env m = (sem call e).t env m := by
  show ((sem call e).t env m).bind (fun t m1 => if t = true then Res.ok true m1 else .ok false m1) = _
  cases (sem call e).t env m with
  | ok t m1 => cases t <;> rfl
  | exc a b => rfl
  | fail => rfl
@[simp] theorem srcR_eq (k : Sk) : srcR k (sems call src) env m = (cArgs (sems call src) env m).bind fun vs m1 => (optR (lookAll m1 vs) m1).bind fun xs m2 => (optR (walk k xs) m2).bind fun is m3 => .ok (is, guards vs) m3 := rfl
@[simp] theorem lookAll_nil : lookAll m [] = some [] := rfl
@[simp] theorem lookAll_d (x : PyData) (r : List Val) : lookAll m (.d x :: r) = (lookAll m r).map (x :: ·) := by
  show (match some x, lookAll m r with | some x, some xs => some (x :: xs) | _, _ => none) = _
  cases lookAll m r <;> rfl
theorem lookAll_mr {k : Nat} {c : Cell} (h : m[k]? = some c) (r : List Val) : lookAll m (.mr k :: r) = (lookAll m r).map (.list c.xs :: ·) := by
  show (match (m[k]?).map fun c => PyData.list c.xs, lookAll m r with | some x, some xs => some (x :: xs) | _, _ => none) = _
  rw [h]
  cases lookAll m r <;> rfl
@[simp] theorem guards_nil : guards [] = [] := rfl
@[simp] theorem guards_d (x : PyData) (r : List Val) : guards (.d x :: r) = guards r := rfl
@[simp] theorem guards_mr (k : Nat) (r : List Val) : guards (.mr k :: r) = k :: guards r := rfl
@[simp] theorem walk_list (xs : List PyData) : walk .seq [.list xs] = some xs := rfl
@[simp] theorem walk_tuple (xs : List PyData) : walk .seq [.tuple xs] = some xs := rfl
@[simp] theorem walk_str (s : Str) : walk .seq [.str s] = some (signs s) := rfl
@[simp] theorem walk_zip (xs ys : List PyData) : walk .zip [.list xs, .list ys] = some (zipD xs ys) := rfl
@[simp] theorem walk_zipT (xs ys : List PyData) : walk .zip [.tuple xs, .tuple ys] = some (zipD xs ys) := rfl
@[simp] theorem walk_enum (xs : List PyData) : walk .enum [.list xs] = some (enumD 0 xs) := rfl
theorem walk_range {n : Nat} (h : n ≤ 1000000) : walk .range [.int n] = some (rangeD 0 n) := by
  unfold walk
  simp only
  rw [if_pos ⟨by omega, by omega⟩, Int.toNat_natCast]
@[simp] theorem same_nil (m' : Mem) : same [] m m' = true := rfl
@[simp] theorem asg_nm_zero (x : PyData) (u : Option Val) (r : Env) : asg (.nm 0) x (u :: r) = some (some (.d x) :: r) := by simp [asg]
@[simp] theorem asg_nm (k : Nat) (x : PyData) : asg (.nm k) x env = if k < env.length then some (setV env k (.d x)) else none := by simp [asg]
@[simp] theorem asg_tp (ts : List Tg) (xs : List PyData) : asg (.tp ts) (.tuple xs) env = asgs ts xs env := by simp [asg]
@[simp] theorem asg_tl (ts : List Tg) (xs : List PyData) : asg (.tp ts) (.list xs) env = asgs ts xs env := by simp [asg]
@[simp] theorem asgs_nil : asgs [] [] env = some env := by simp [asgs]
@[simp] theorem asgs_cons (t : Tg) (ts : List Tg) (x : PyData) (xs : List PyData) : asgs (t :: ts) (x :: xs) env = (asg t x env).bind fun env' => asgs ts xs env' := by
  rw [asgs]
  cases asg t x env <;> rfl
/-! statements -/
def nextF (b : EX) (f : Flow) (m : Mem) : Res Flow := match f with
  | .next env' => b env' m
  | f => .ok f m
@[simp] theorem nextF_next (b : EX) : nextF b (.next env) m = b env m := rfl
@[simp] theorem nextF_ret (b : EX) (v : Val) : nextF b (.ret v) m = .ok (.ret v) m := rfl
variable (s : S) (r body els : List S)
@[simp] theorem exB_nil : exB call wf [] env m = .ok (.next env) m := rfl
@[simp] theorem exB_cons : exB call wf (s :: r) env m = (exS call wf s env m).bind (nextF (exB call wf r)) := by
  show ((exS call wf s env m).bind fun f m1 => match f with | .next env' => exB call wf r env' m1 | f => .ok f m1) = _
  rfl
@[simp] theorem x_expr : exS call wf (.expr e) env m = ((sem call e).v env m).noX.bind fun _ m1 => .ok (.next env) m1 := rfl
@[simp] theorem setIn_eq (k : Nat) (v : Val) : setIn env k v m = if k < env.length then .ok (.next (setV env k v)) m else .fail := rfl
@[simp] theorem x_set (k : Nat) (cl : Bool) : exS call wf (.set k cl e) env m = ((sem call e).v env m).noX.bind fun v m1 => (stored cl v m1).bind fun v' m2 => setIn env k v' m2 := rfl
def asgR (o : Option Env) (m : Mem) : Res Flow := match o with
  | some env' => .ok (.next env') m
  | none => .fail
@[simp] theorem asgR_some : asgR (some env) m = .ok (.next env) m := rfl
def asgV (t : Tg) (env : Env) (v : Val) (m : Mem) : Res Flow := match v with
  | .d x => asgR (asg t x env) m
  | _ => .fail
@[simp] theorem asgV_d (t : Tg) (x : PyData) : asgV t env (.d x) m = asgR (asg t x env) m := rfl
@[simp] theorem x_setT (t : Tg) : exS call wf (.setT t e) env m = ((sem call e).v env m).noX.bind fun v m1 => asgV t env v.nf m1 := rfl
@[simp] theorem x_par (is : List (Nat × Bool)) : exS call wf (.par is es) env m = (parV is (sems call es) env m).noX.bind fun vs m1 => setAll is vs env m1 := rfl
@[simp] theorem parV_nil : parV [] (sems call []) env m = .ok [] m := rfl
@[simp] theorem parV_cons (k : Nat) (cl : Bool) (is : List (Nat × Bool)) : parV ((k, cl) :: is) (sems call (e :: es)) env m = ((sem call e).v env m).bind fun v m1 => (stored cl v m1).bind fun v' m2 => (parV is (sems call es) env m2).bind fun vs m3 => .ok (v' :: vs) m3 := rfl
@[simp] theorem setAll_nil : setAll [] [] env m = .ok (.next env) m := rfl
@[simp] theorem setAll_cons (k : Nat) (cl : Bool) (is : List (Nat × Bool)) (v : Val) (vs : List Val) : setAll ((k, cl) :: is) (v :: vs) env m = if k < env.length then setAll is vs (setV env k v) m else .fail := rfl
@[simp] theorem x_ret : exS call wf (.ret e) env m = ((sem call e).v env m).noX.bind fun v m1 => .ok (.ret v) m1 := rfl
@[simp] theorem x_iff : exS call wf (.iff e body els) env m = ((sem call e).t env m).noX.bind fun t m1 => if t = true then exB call wf body env m1 else exB call wf els env m1 := rfl
@[simp] theorem x_for (t : Tg) (k : Sk) : exS call wf (.for t k src body) env m = (srcR k (sems call src) env m).noX.bind fun p m1 => forLoop t (exB call wf body) p.2 p.1 env m1 := rfl
@[simp] theorem x_while : exS call wf (.while e body) env m = whileLoop (sem call e) (exB call wf body) wf env m := rfl
@[simp] theorem onCell_mr {k : Nat} {rr : Res Flow} {j : Nat} (h : getV env k = some (.mr j)) : onCell env k rr = rr := by
  unfold onCell; rw [h]
theorem upCell_mr {k j : Nat} {f : List PyData → Option (List PyData)} {xs ys : List PyData} (h : getV env k = some (.mr j)) (hm : m[j]? = some ⟨false, xs⟩) (hf : f xs = some ys) : upCell env k f m = .ok (.next env) (m.set j ⟨false, ys⟩) := by
  unfold upCell; rw [h]; simp only; rw [hm]; simp only [if_true]; rw [hf]
@[simp] theorem x_app (k : Nat) : exS call wf (.app k e) env m = onCell env k (((sem call e).v env m).noX.bind fun v m1 => (frz v m1).bind fun x m2 => upCell env k (fun xs => if xs.length < lim then some (xs ++ [x]) else none) m2) := rfl
@[simp] theorem x_put (k : Nat) : exS call wf (.put k i e) env m = ((sem call e).v env m).noX.bind fun v m1 => (frz v m1).bind fun x m2 => onCell env k (((sem call i).v env m2).noX.bind fun vj m3 => (rdR m3 vj.nf).bind fun y m4 => upCell env k (putD y x) m4) := rfl
end
def endF (n : Nat) (fl : Flow) (m : Mem) : Res Val := match fl with
  | .ret v => leave n v m
  | .next _ => .ok (.d .none) (m.take n)
  | _ => .fail
@[simp] theorem endF_ret (n : Nat) (v : Val) (m : Mem) : endF n (.ret v) m = leave n v m := rfl
@[simp] theorem leave_d (n : Nat) (x : PyData) (m : Mem) : leave n (.d x) m = .ok (.d x) (m.take n) := rfl
@[simp] theorem leave_fr (n : Nat) (x : List PyData) (m : Mem) : leave n (.fr x) m = .ok (.fr x) (m.take n) := rfl
theorem leave_new {n k : Nat} {m : Mem} {xs : List PyData} (h : m[k]? = some ⟨false, xs⟩) (hn : n ≤ k) : leave n (.mr k) m = .ok (.fr xs) (m.take n) := by
  unfold leave
  simp only
  rw [if_neg (by omega), h]
  simp
theorem run_succ {T : List Fn} {wf n f : Nat} {vs : List Val} {m : Mem} (F : Fn) (hF : T[f]? = some F) (hl : vs.length = F.ps) (hp : F.ps ≤ F.n) :
    run T wf (n + 1) f vs m = ((exB (run T wf n) wf F.body (vs.map some ++ List.replicate (F.n - F.ps) none) m).cutX m.length).bind (endF m.length) := by
  unfold run
  simp only [hF, hl, hp, and_self, if_true]
  rfl
/-! loops -/
theorem lc2Loop_pure {t : Tg} {tests : List P} {inner : Nat → Env → Mem → Res (List PyData)} {gs : List Nat} {env : Env} {m : Mem} (p : PyData → Bool) (f : PyData → List PyData) (hg : same gs m m = true) : ∀ {xs : List PyData} {n : Nat} (B : Nat), (n + ((xs.filter p).flatMap f).length ≤ B) →
    (∀ x ∈ xs, ∃ env', asg t x env = some env' ∧ tAll tests env' m = .ok (p x) m ∧ (p x = true → ∀ n, n + (f x).length ≤ B → inner n env' m = .ok (f x) m)) → lc2Loop t tests inner gs env n xs m = .ok ((xs.filter p).flatMap f) m
  | [], n, B, _, _ => rfl
  | x :: xs, n, B, hB, h => by
    obtain ⟨env', h1, h2, h3⟩ := h x List.mem_cons_self
    unfold lc2Loop
    rw [h1]
    simp only [h2, Res.bind_ok]
    cases hp : p x with
    | false =>
      rw [List.filter_cons_of_neg (by simp [hp])] at hB ⊢
      simp [hg, lc2Loop_pure (t := t) (tests := tests) (inner := inner) (env := env) p f hg (xs := xs) B hB fun y hy => h y (List.mem_cons_of_mem _ hy)]
    | true =>
      rw [List.filter_cons_of_pos hp, List.flatMap_cons, List.length_append] at hB
      simp only [if_true, h3 hp n (by omega), Res.bind_ok, hg]
      rw [lc2Loop_pure (t := t) (tests := tests) (inner := inner) (env := env) p f hg (xs := xs) B (by omega) fun y hy => h y (List.mem_cons_of_mem _ hy)]
      rw [List.filter_cons_of_pos hp, List.flatMap_cons]
      rfl
theorem lcLoop_pure {t : Tg} {tests : List P} {elt : P} {gs : List Nat} {env : Env} {m : Mem} (p : PyData → Bool) (f : PyData → PyData) (hg : same gs m m = true) : ∀ {xs : List PyData},
    (∀ x ∈ xs, ∃ env', asg t x env = some env' ∧ tAll tests env' m = .ok (p x) m ∧ (p x = true → ∃ v, elt.v env' m = .ok v m ∧ frz v m = .ok (f x) m)) → lcLoop t tests elt gs env xs m = .ok ((xs.filter p).map f) m
  | [], _ => rfl
  | x :: xs, h => by
    obtain ⟨env', h1, h2, h3⟩ := h x List.mem_cons_self
    have ih := lcLoop_pure (t := t) (tests := tests) (elt := elt) (env := env) p f hg (xs := xs) fun y hy => h y (List.mem_cons_of_mem _ hy)
    unfold lcLoop
    rw [h1]
    simp only [h2, Res.bind_ok]
    cases hp : p x with
    | false => simp [hg, ih, hp]
    | true =>
      obtain ⟨v, h4, h5⟩ := h3 hp
      simp [h4, h5, hg, ih, hp]
theorem lcLoop_inv {t : Tg} {elt : P} {gs : List Nat} {env : Env} (J : Nat → Mem → Prop) (Pr : PyData → Prop) : ∀ {xs : List PyData} (n0 : Nat) {m : Mem},
    (∀ i x, xs[i]? = some x → ∀ m, J (n0 + i) m → ∃ env' v m2 y m3, asg t x env = some env' ∧ elt.v env' m = .ok v m2 ∧ frz v m2 = .ok y m3 ∧ same gs m m3 = true ∧ J (n0 + i + 1) m3 ∧ Pr y) → J n0 m →
    ∃ ys m', lcLoop t [] elt gs env xs m = .ok ys m' ∧ ys.length = xs.length ∧ (∀ y ∈ ys, Pr y) ∧ J (n0 + xs.length) m'
  | [], n0, m, _, h0 => ⟨[], m, rfl, rfl, by simp, by simpa using h0⟩
  | x :: xs, n0, m, h, h0 => by
    obtain ⟨env', v, m2, y, m3, a1, a2, a3, a4, a5, a6⟩ := h 0 x rfl m (by simpa using h0)
    obtain ⟨ys, m', b1, b2, b3, b4⟩ := lcLoop_inv J Pr (xs := xs) (n0 + 1) (m := m3) (fun i z hz m hm => by
      obtain ⟨env', v, m2, y, m3, c1, c2, c3, c4, c5, c6⟩ := h (i + 1) z (by simpa using hz) m (by rw [show n0 + (i + 1) = n0 + 1 + i by omega]; exact hm)
      exact ⟨env', v, m2, y, m3, c1, c2, c3, c4, by rw [show n0 + 1 + i + 1 = n0 + (i + 1) + 1 by omega]; exact c5, c6⟩) (by simpa using a5)
    refine ⟨y :: ys, m', ?_, by simp [b2], fun z hz => ?_, by rw [List.length_cons, show n0 + (xs.length + 1) = n0 + 1 + xs.length by omega]; exact b4⟩
    · unfold lcLoop
      rw [a1]
      simp [tAll, a2, a3, a4, b1]
    · rcases List.mem_cons.mp hz with rfl | hz
      · exact a6
      · exact b3 z hz
theorem forLoop_inv {t : Tg} {body : EX} {gs : List Nat} (J : Nat → Env → Mem → Prop) : ∀ {xs : List PyData} (n0 : Nat) {env : Env} {m : Mem},
    (∀ i x, xs[i]? = some x → ∀ env m, J (n0 + i) env m → ∃ env1 env2 m2, asg t x env = some env1 ∧ body env1 m = .ok (.next env2) m2 ∧ same gs m m2 = true ∧ J (n0 + i + 1) env2 m2) → J n0 env m →
    ∃ env' m', forLoop t body gs xs env m = .ok (.next env') m' ∧ J (n0 + xs.length) env' m'
  | [], n0, env, m, _, h0 => ⟨env, m, rfl, by simpa using h0⟩
  | x :: xs, n0, env, m, h, h0 => by
    obtain ⟨env1, env2, m2, a1, a2, a3, a4⟩ := h 0 x rfl env m (by simpa using h0)
    obtain ⟨env', m', b1, b2⟩ := forLoop_inv J (xs := xs) (n0 + 1) (env := env2) (m := m2) (fun i z hz env m hm => by
      obtain ⟨e1, e2, m2, c1, c2, c3, c4⟩ := h (i + 1) z (by simpa using hz) env m (by rw [show n0 + (i + 1) = n0 + 1 + i by omega]; exact hm)
      exact ⟨e1, e2, m2, c1, c2, c3, by rw [show n0 + 1 + i + 1 = n0 + (i + 1) + 1 by omega]; exact c4⟩) (by simpa using a4)
    refine ⟨env', m', ?_, by rw [List.length_cons, show n0 + (xs.length + 1) = n0 + 1 + xs.length by omega]; exact b2⟩
    unfold forLoop
    rw [a1]
    simp only [a2, Res.bind_ok, a3, if_true]
    exact b1
@[simp] theorem bind_ite {α β : Type} (c : Prop) [Decidable c] (a b : Res α) (f : α → Mem → Res β) : (if c then a else b).bind f = if c then a.bind f else b.bind f := by split <;> rfl
theorem lcLoop_map {t : Tg} {call : Call} {elt : P} {gs : List Nat} {env : Env} {m : Mem} (f : PyData → PyData) (hg : same gs m m = true) {xs : List PyData}
    (h : ∀ x ∈ xs, ∃ env', asg t x env = some env' ∧ ∃ v, elt.v env' m = .ok v m ∧ frz v m = .ok (f x) m) : lcLoop t (sems call []) elt gs env xs m = .ok (xs.map f) m := by
  rw [lcLoop_pure (fun _ => true) f hg]
  · rw [List.filter_eq_self.mpr fun _ _ => rfl]
  · intro x hx
    obtain ⟨env', h1, h2⟩ := h x hx
    exact ⟨env', h1, rfl, fun _ => h2⟩
theorem bools_map {α : Type} (f : α → Bool) : ∀ xs : List α, bools (xs.map fun x => PyData.bool (f x)) = some (xs.map f)
  | [] => rfl
  | x :: xs => by
    show (bools (xs.map fun x => PyData.bool (f x))).map (f x :: ·) = _
    rw [bools_map f xs]; rfl
/-- all, closed to simp -/
def allB {α : Type} (xs : List α) (f : α → Bool) : Bool := xs.all f
theorem allB_eq {α : Type} (xs : List α) (f : α → Bool) : allB xs f = xs.all f := rfl
theorem allB_at {α : Type} {xs : List α} {f : α → Bool} (h : allB xs f = true) {x : α} (hx : x ∈ xs) : f x = true := List.all_eq_true.mp h x hx
theorem allB_of {α : Type} {xs : List α} {f : α → Bool} (h : ∀ x ∈ xs, f x = true) : allB xs f = true := List.all_eq_true.mpr h
theorem allB_congr {α : Type} {xs : List α} {f g : α → Bool} (h : ∀ x ∈ xs, f x = g x) : allB xs f = allB xs g := by
  rw [Bool.eq_iff_iff, allB_eq, allB_eq, List.all_eq_true, List.all_eq_true]
  exact ⟨fun q x hx => by rw [← h x hx]; exact q x hx, fun q x hx => by rw [h x hx]; exact q x hx⟩
/-- a filter that leaves nothing -/
theorem filter_none {α : Type} (xs : List α) (f : α → Bool) : (xs.filter fun x => !f x).isEmpty = allB xs f := by
  rw [allB_eq, Bool.eq_iff_iff, List.isEmpty_iff, List.filter_eq_nil_iff, List.all_eq_true]
  simp
@[simp] theorem wipe_nil (env : Env) : wipe env [] = env := rfl
@[simp] theorem wipe_cons (env : Env) (i : Nat) (r : List Nat) : wipe env (i :: r) = (wipe env r).set i none := rfl
@[simp] theorem allD_map {α : Type} (f : α → Bool) (xs : List α) : allD [.list (xs.map fun x => PyData.bool (f x))] = some (.d (.bool (allB xs f))) := by
  show (bools (xs.map fun x => PyData.bool (f x))).map _ = _
  rw [bools_map, Option.map_some, List.all_map]; rfl
@[simp] theorem bi_all (x : List PyData) : bi .all x = allD x := rfl
@[simp] theorem bi_len (x : List PyData) : bi .len x = lenD x := rfl
@[simp] theorem len_list (x : List PyData) : lenD [.list x] = some (.d (.int x.length)) := rfl
@[simp] theorem len_tuple (x : List PyData) : lenD [.tuple x] = some (.d (.int x.length)) := rfl
@[simp] theorem len_str (x : Str) : lenD [.str x] = some (.d (.int x.length)) := rfl
theorem eqv_int (i j : Int) : PyData.eqv (.int i) (.int j) = (i == j) := by simp [PyData.eqv]
theorem depth_int (i : Int) : (PyData.int i).depth = 0 := by simp [PyData.depth]
@[simp] theorem cmp_eqI (i j : Int) : cmp .eq (.int i) (.int j) = some (i == j) := by simp [cmp, deep, depth_int, eqv_int]
@[simp] theorem cmp_neI (i j : Int) : cmp .ne (.int i) (.int j) = some (!(i == j)) := by simp [cmp, deep, depth_int, eqv_int]
@[simp] theorem cmp_leI (i j : Int) : cmp .le (.int i) (.int j) = some (decide (i ≤ j)) := rfl
@[simp] theorem cmp_ltI (i j : Int) : cmp .lt (.int i) (.int j) = some (decide (i < j)) := rfl
@[simp] theorem cmp_gtI (i j : Int) : cmp .gt (.int i) (.int j) = some (decide (j < i)) := rfl
@[simp] theorem cmp_geI (i j : Int) : cmp .ge (.int i) (.int j) = some (decide (j ≤ i)) := rfl
@[simp] theorem cmp_ltS (i j : Str) : cmp .lt (.str i) (.str j) = some (strLt i j) := rfl
theorem depth_nil : (PyData.list []).depth ≤ 64 := by simp [PyData.depth, PyData.depthAll]
theorem eqv_nil (xs : List PyData) : PyData.eqv (.list xs) (.list []) = xs.isEmpty := by cases xs <;> simp [PyData.eqv, PyData.eqvAll]
/-- empty, closed to simp -/
def emp {α : Type} (xs : List α) : Bool := xs.isEmpty
@[simp] theorem emp_map {α β : Type} (f : α → β) (xs : List α) : emp (xs.map f) = emp xs := by cases xs <;> rfl
@[simp] theorem emp_filter {α : Type} (xs : List α) (f : α → Bool) : emp (xs.filter fun x => !f x) = allB xs f := filter_none xs f
@[simp] theorem cmp_eqNil (xs : List PyData) : cmp .eq (.list xs) (.list []) = some (emp xs) := by
  have h := depth_nil
  have hd : deep (.list xs) (.list []) = true := decide_eq_true (by omega)
  simp only [cmp, hd, eqv_nil, if_true]
  rfl
@[simp] theorem cmp_neNil (xs : List PyData) : cmp .ne (.list xs) (.list []) = some (!emp xs) := by
  have h := depth_nil
  have hd : deep (.list xs) (.list []) = true := decide_eq_true (by omega)
  simp only [cmp, hd, eqv_nil, if_true]
  rfl
@[simp] theorem v_pop (call : Call) (i : Nat) (e : E) (env : Env) (m : Mem) : (sem call (.pop i e)).v env m = cPop i (sem call e) env m := rfl
theorem cPop_mr {p : P} {env : Env} {m m1 : Mem} {i k : Nat} {j : Int} {xs : List PyData} {y : PyData} (h1 : getV env i = some (.mr k)) (h2 : p.v env m = .ok (.d (.int j)) m1) (h3 : m1[k]? = some ⟨false, xs⟩) (h4 : 0 ≤ j) (h5 : j < xs.length) (h6 : xs[j.toNat]? = some y) :
    cPop i p env m = .ok (.d y) (m1.set k ⟨false, xs.eraseIdx j.toNat⟩) := by
  unfold cPop
  rw [h1]
  simp only [h2, Res.bind_ok, nf_d, rdR_d, h3]
  rw [if_pos ⟨by trivial, h4, h5⟩, h6]
@[simp] theorem bi_list (x : List PyData) : bi .list x = listD x := rfl
@[simp] theorem bi_tuple (x : List PyData) : bi .tuple x = tupleD x := rfl
@[simp] theorem listD_list (x : List PyData) : listD [.list x] = some (.fr x) := rfl
@[simp] theorem listD_tuple (x : List PyData) : listD [.tuple x] = some (.fr x) := rfl
@[simp] theorem listD_str (x : Str) : listD [.str x] = some (.fr (signs x)) := rfl
@[simp] theorem tupleD_list (x : List PyData) : tupleD [.list x] = some (.d (.tuple x)) := rfl
@[simp] theorem tupleD_tuple (x : List PyData) : tupleD [.tuple x] = some (.d (.tuple x)) := rfl
@[simp] theorem bi_min2 (i j : Int) : bi .min2 [.int i, .int j] = some (.d (.int (if j < i then j else i))) := rfl
@[simp] theorem bi_abs (i : Int) : bi .abs [.int i] = some (.d (.int (if i < 0 then -i else i))) := rfl
@[simp] theorem bi_intI (i : Int) : bi .int [.int i] = some (.d (.int i)) := rfl
@[simp] theorem bi_intB (b : Bool) : bi .int [.bool b] = some (.d (.int (if b then 1 else 0))) := rfl
theorem rangeD_len (n : Nat) : ∀ lo, (rangeD lo n).length = n := by
  induction n with
  | zero => intro lo; rfl
  | succ n ih => intro lo; rw [rangeD, List.length_cons, ih]
theorem rangeD_at (n : Nat) : ∀ (lo : Int) (i : Nat) (x : PyData), (rangeD lo n)[i]? = some x → x = .int (lo + i) ∧ i < n := by
  induction n with
  | zero => intro lo i x h; simp [rangeD] at h
  | succ n ih =>
    intro lo i x h
    rw [rangeD] at h
    cases i with
    | zero => simp at h; exact ⟨by rw [← h]; simp, by omega⟩
    | succ i =>
      obtain ⟨h1, h2⟩ := ih (lo + 1) i x (by simpa using h)
      exact ⟨by rw [h1, show lo + 1 + (i : Int) = lo + ((i + 1 : Nat) : Int) by omega], by omega⟩
mutual
theorem beqD_refl : ∀ x : PyData, beqD x x = true
  | .none => by simp [beqD]
  | .bool _ => by simp [beqD]
  | .int _ => by simp [beqD]
  | .str _ => by simp [beqD]
  | .list xs => by rw [beqD]; exact beqDs_refl xs
  | .tuple xs => by rw [beqD]; exact beqDs_refl xs
  | .dict xs => by rw [beqD]; exact beqPs_refl xs
theorem beqDs_refl : ∀ xs : List PyData, beqDs xs xs = true
  | [] => by simp [beqDs]
  | x :: xs => by rw [beqDs, beqD_refl x, beqDs_refl xs]; rfl
theorem beqPs_refl : ∀ xs : List (PyData × PyData), beqPs xs xs = true
  | [] => by simp [beqPs]
  | (x, u) :: xs => by rw [beqPs, beqD_refl x, beqD_refl u, beqPs_refl xs]; rfl
end
theorem same_of {m m' : Mem} : ∀ {gs : List Nat}, (∀ k ∈ gs, ∃ c c', m[k]? = some c ∧ m'[k]? = some c' ∧ c.xs = c'.xs) → same gs m m' = true
  | [], _ => rfl
  | k :: r, h => by
    obtain ⟨c, c', h1, h2, h3⟩ := h k List.mem_cons_self
    rw [same, h1, h2]
    simp only [h3, beqDs_refl, Bool.true_and]
    exact same_of fun j hj => h j (List.mem_cons_of_mem _ hj)
end Ra.M


set_option Elab.async false
set_option linter.all false
set_option maxRecDepth 100000
/-! plans: the plain law -/
namespace Ra.K3
open PySem
structure Sp where
  nm : Str
  me : Str
  rd : List Str
  sh : Str
  cd : List (Str × Int)
  deriving DecidableEq
def holdB (cd : List (Str × Int)) (V : List Str) : Bool := cd.all fun p => decide (p.1 ∈ V) == (p.2 == 1)
def lookC (cd : List (Str × Int)) (f : Str) : Option Int := (cd.find? fun p => p.1 == f).map (·.2)
def clashB (c1 c2 : List (Str × Int)) : Bool := c2.any fun p => (lookC c1 p.1).getD p.2 != p.2
def feedB (a b : Sp) : Bool := decide (a.sh ∈ b.rd)
def goB (a b : Sp) : Bool := feedB a b && !clashB a.cd b.cd
structure OkC (cd : List (Str × Int)) : Prop where
  nd : (cd.map (·.1)).Nodup
  bit : ∀ p ∈ cd, p.2 = 0 ∨ p.2 = 1
theorem inj_of_nodup {α β : Type} (f : α → β) : ∀ {l : List α}, (l.map f).Nodup → ∀ {a b}, a ∈ l → b ∈ l → f a = f b → a = b
  | [], _, _, _, h, _, _ => by cases h
  | x :: l, h, a, b, ha, hb, e => by
    rw [List.map_cons, List.nodup_cons] at h
    rcases List.mem_cons.mp ha with rfl | ha' <;> rcases List.mem_cons.mp hb with rfl | hb'
    · rfl
    · exact absurd (List.mem_map.mpr ⟨b, hb', e.symm⟩) h.1
    · exact absurd (List.mem_map.mpr ⟨a, ha', e⟩) h.1
    · exact inj_of_nodup f h.2 ha' hb' e
theorem look_some {cd : List (Str × Int)} {f : Str} {a : Int} (h : lookC cd f = some a) : (f, a) ∈ cd := by
  unfold lookC at h
  obtain ⟨p, h1, h2⟩ := Option.map_eq_some_iff.mp h
  have h3 := List.mem_of_find?_eq_some h1
  have h4 := List.find?_some h1
  have e : p.1 = f := by simpa using h4
  subst h2 e
  exact h3
theorem look_none {cd : List (Str × Int)} {f : Str} (h : lookC cd f = none) (a : Int) : (f, a) ∉ cd := by
  unfold lookC at h
  rw [Option.map_eq_none_iff, List.find?_eq_none] at h
  intro hm
  have := h _ hm
  simp at this
theorem look_mem {cd : List (Str × Int)} (h : (cd.map (·.1)).Nodup) {f : Str} {a : Int} (hm : (f, a) ∈ cd) : lookC cd f = some a := by
  cases e : lookC cd f with
  | none => exact absurd hm (look_none e a)
  | some b =>
    have := inj_of_nodup (·.1) h hm (look_some e) rfl
    cases this; rfl
theorem clash_iff {c1 c2 : List (Str × Int)} (h : OkC c1) : clashB c1 c2 = true ↔ ∃ f a b, (f, a) ∈ c1 ∧ (f, b) ∈ c2 ∧ a ≠ b := by
  unfold clashB
  rw [List.any_eq_true]
  constructor
  · rintro ⟨⟨f, b⟩, hm, hn⟩
    cases e : lookC c1 f with
    | none => simp [e] at hn
    | some a => exact ⟨f, a, b, look_some e, hm, by simpa [e] using hn⟩
  · rintro ⟨f, a, b, h1, h2, h3⟩
    exact ⟨(f, b), h2, by simpa [look_mem h.nd h1] using h3⟩
theorem hold_iff {cd : List (Str × Int)} {V : List Str} : holdB cd V = true ↔ ∀ f a, (f, a) ∈ cd → (f ∈ V ↔ a = 1) := by
  unfold holdB
  rw [List.all_eq_true]
  constructor
  · intro h f a hm
    have := h _ hm
    simp only [beq_iff_eq] at this
    rw [Bool.eq_iff_iff] at this
    simpa using this
  · rintro h ⟨f, a⟩ hm
    have := h f a hm
    simp only [beq_iff_eq]
    rw [Bool.eq_iff_iff]
    simpa using this
theorem same_of_hold {c1 c2 : List (Str × Int)} {V : List Str} (k1 : OkC c1) (k2 : OkC c2) (h1 : holdB c1 V = true) (h2 : holdB c2 V = true) {f : Str} {a b : Int} (m1 : (f, a) ∈ c1) (m2 : (f, b) ∈ c2) : a = b := by
  have e1 := hold_iff.mp h1 f a m1
  have e2 := hold_iff.mp h2 f b m2
  have b1 := k1.bit _ m1
  have b2 := k2.bit _ m2
  simp only at b1 b2
  rcases b1 with rfl | rfl
  · rcases b2 with rfl | rfl
    · rfl
    · exact e1.mp (e2.mpr rfl)
  · rcases b2 with rfl | rfl
    · exact (e2.mp (e1.mpr rfl)).symm
    · rfl
theorem noclash {c1 c2 : List (Str × Int)} {V : List Str} (k1 : OkC c1) (k2 : OkC c2) (h1 : holdB c1 V = true) (h2 : holdB c2 V = true) : clashB c1 c2 = false := by
  rw [Bool.eq_false_iff]
  intro h
  obtain ⟨f, a, b, m1, m2, hn⟩ := (clash_iff k1).mp h
  exact hn (same_of_hold k1 k2 h1 h2 m1 m2)
/-- the flags that are on -/
def meetF (L : List Sp) : List Str := L.flatMap fun s => (s.cd.filter fun p => p.2 == 1).map (·.1)
theorem mem_meet {L : List Sp} {f : Str} : f ∈ meetF L ↔ ∃ s ∈ L, (f, 1) ∈ s.cd := by
  unfold meetF
  rw [List.mem_flatMap]
  constructor
  · rintro ⟨s, hs, h⟩
    obtain ⟨⟨g, a⟩, h1, h2⟩ := List.mem_map.mp h
    obtain ⟨h3, h4⟩ := List.mem_filter.mp h1
    have e : a = 1 := by simpa using h4
    simp only at h2
    subst e h2
    exact ⟨s, hs, h3⟩
  · rintro ⟨s, hs, h⟩
    exact ⟨s, hs, List.mem_map.mpr ⟨(f, 1), List.mem_filter.mpr ⟨h, by simp⟩, rfl⟩⟩
theorem hold_meet {L : List Sp} {V : List Str} (hV : ∀ f, f ∈ V ↔ f ∈ meetF L) (h : ∀ s ∈ L, ∀ t ∈ L, ∀ f a b, (f, a) ∈ s.cd → (f, b) ∈ t.cd → a = b) : ∀ s ∈ L, holdB s.cd V = true := by
  intro s hs
  rw [hold_iff]
  intro f a hm
  rw [hV, mem_meet]
  constructor
  · rintro ⟨t, ht, h1⟩
    exact h s hs t ht f a 1 hm h1
  · rintro rfl
    exact ⟨s, hs, hm⟩
/-! rings -/
def RS (L : List Sp) : Prop := ∃ Q : List Sp, Q ≠ [] ∧ (∀ s ∈ Q, s ∈ L) ∧ ∀ s ∈ Q, ∃ t ∈ Q, feedB t s = true
def Ring (V : List Str) (L : List Sp) : Prop := ∃ Q : List Sp, Q ≠ [] ∧ (∀ s ∈ Q, s ∈ L ∧ holdB s.cd V = true) ∧ ∀ s ∈ Q, ∃ t ∈ Q, feedB t s = true
theorem ring_rs {V : List Str} {L : List Sp} : Ring V L ↔ RS (L.filter fun s => holdB s.cd V) := by
  constructor
  · rintro ⟨Q, h1, h2, h3⟩
    exact ⟨Q, h1, fun s hs => List.mem_filter.mpr (h2 s hs), h3⟩
  · rintro ⟨Q, h1, h2, h3⟩
    exact ⟨Q, h1, fun s hs => List.mem_filter.mp (h2 s hs), h3⟩
def aheadC (L : List Sp) : List Sp := L.filter fun s => L.any fun o => goB o s
def backC (L : List Sp) : List Sp := L.filter fun s => L.any fun o => goB s o
def stepC (L : List Sp) : List Sp := backC (aheadC L)
theorem mem_ahead {L : List Sp} {s : Sp} : s ∈ aheadC L ↔ s ∈ L ∧ ∃ o ∈ L, goB o s = true := by
  unfold aheadC
  rw [List.mem_filter, List.any_eq_true]
theorem mem_back {L : List Sp} {s : Sp} : s ∈ backC L ↔ s ∈ L ∧ ∃ o ∈ L, goB s o = true := by
  unfold backC
  rw [List.mem_filter, List.any_eq_true]
theorem step_sub (L : List Sp) : (stepC L).Sublist L := List.Sublist.trans List.filter_sublist List.filter_sublist
theorem go_of {V : List Str} {L : List Sp} (hL : ∀ s ∈ L, OkC s.cd) {a b : Sp} (ha : a ∈ L ∧ holdB a.cd V = true) (hb : b ∈ L ∧ holdB b.cd V = true) (h : feedB a b = true) : goB a b = true := by
  unfold goB
  rw [h, noclash (hL a ha.1) (hL b hb.1) ha.2 hb.2]
  rfl
theorem ring_step {V : List Str} {L : List Sp} (hL : ∀ s ∈ L, OkC s.cd) (h : Ring V L) : Ring V (stepC L) := by
  obtain ⟨Q, h1, h2, h3⟩ := h
  have hA : ∀ s ∈ Q, s ∈ aheadC L := fun s hs => by
    obtain ⟨t, ht, hf⟩ := h3 s hs
    exact mem_ahead.mpr ⟨(h2 s hs).1, t, (h2 t ht).1, go_of hL (h2 t ht) (h2 s hs) hf⟩
  refine ⟨Q.filter fun s => Q.any fun o => feedB s o, ?_, fun s hs => ?_, fun s hs => ?_⟩
  · obtain ⟨s, hs⟩ := List.exists_mem_of_ne_nil Q h1
    obtain ⟨t, ht, hf⟩ := h3 s hs
    exact List.ne_nil_of_mem (List.mem_filter.mpr ⟨ht, List.any_eq_true.mpr ⟨s, hs, hf⟩⟩)
  · obtain ⟨hq, ha⟩ := List.mem_filter.mp hs
    obtain ⟨o, ho, hf⟩ := List.any_eq_true.mp ha
    exact ⟨mem_back.mpr ⟨hA s hq, o, hA o ho, go_of hL (h2 s hq) (h2 o ho) hf⟩, (h2 s hq).2⟩
  · obtain ⟨hq, _⟩ := List.mem_filter.mp hs
    obtain ⟨t, ht, hf⟩ := h3 s hq
    exact ⟨t, List.mem_filter.mpr ⟨ht, List.any_eq_true.mpr ⟨s, hq, hf⟩⟩, hf⟩
def iterN (f : List Sp → List Sp) : Nat → List Sp → List Sp
  | 0, L => L
  | n + 1, L => iterN f n (f L)
theorem iterN_succ (f : List Sp → List Sp) : ∀ n L, iterN f (n + 1) L = f (iterN f n L)
  | 0, _ => rfl
  | n + 1, L => by
    rw [iterN, iterN_succ f n (f L)]
    rfl
theorem iter_sub : ∀ n L, (iterN stepC n L).Sublist L
  | 0, L => List.Sublist.refl L
  | n + 1, L => (iter_sub n (stepC L)).trans (step_sub L)
theorem iter_ring {V : List Str} : ∀ n L, (∀ s ∈ L, OkC s.cd) → Ring V L → Ring V (iterN stepC n L)
  | 0, _, _, h => h
  | n + 1, L, hL, h => iter_ring n (stepC L) (fun s hs => hL s ((step_sub L).subset hs)) (ring_step hL h)
theorem iter_same {L : List Sp} (h : stepC L = L) : ∀ n, iterN stepC n L = L
  | 0 => rfl
  | n + 1 => by rw [iterN, h, iter_same h n]
theorem iter_fix : ∀ n L, L.length ≤ n → stepC (iterN stepC n L) = iterN stepC n L
  | 0, L, h => by
    have : L = [] := List.length_eq_zero_iff.mp (by omega)
    subst this; rfl
  | n + 1, L, h => by
    by_cases e : stepC L = L
    · rw [iter_same e, e]
    · have hs := step_sub L
      have hl := hs.length_le
      have : (stepC L).length ≠ L.length := fun q => e (hs.eq_of_length q)
      rw [iterN]
      exact iter_fix n (stepC L) (by omega)
def core (L : List Sp) : List Sp := iterN stepC L.length L
theorem core_sub (L : List Sp) : (core L).Sublist L := iter_sub _ _
theorem core_ring {V : List Str} {L : List Sp} (hL : ∀ s ∈ L, OkC s.cd) (h : Ring V L) : Ring V (core L) := iter_ring _ _ hL h
theorem core_next (L : List Sp) : ∀ s ∈ core L, ∃ o ∈ core L, goB s o = true := by
  have h := iter_fix L.length L (Nat.le_refl _)
  intro s hs
  have hs' : s ∈ stepC (core L) := by unfold core; rw [h]; exact hs
  obtain ⟨_, o, ho, hg⟩ := mem_back.mp hs'
  exact ⟨o, (mem_ahead.mp ho).1, hg⟩
/-! a ring is found -/
theorem nodup_len {α : Type} [DecidableEq α] : ∀ {l l' : List α}, l.Nodup → (∀ x ∈ l, x ∈ l') → l.length ≤ l'.length
  | [], _, _, _ => Nat.zero_le _
  | x :: l, l', h, hs => by
    obtain ⟨h1, h2⟩ := List.nodup_cons.mp h
    have hx := hs x List.mem_cons_self
    have := nodup_len (l := l) (l' := l'.erase x) h2 fun y hy => by
      have hne : y ≠ x := fun e => h1 (e ▸ hy)
      exact (List.mem_erase_of_ne hne).mpr (hs y (List.mem_cons_of_mem _ hy))
    rw [List.length_erase_of_mem hx] at this
    have hp : 0 < l'.length := List.length_pos_of_mem hx
    rw [List.length_cons]
    omega
def chainB : List Sp → Bool
  | a :: b :: r => feedB a b && chainB (b :: r)
  | _ => true
def cycB : List Sp → Bool
  | [] => false
  | x :: xs => chainB (x :: xs ++ [x])
theorem chain_snoc : ∀ (l : List Sp) (a x : Sp), chainB (l ++ [a] ++ [x]) = (chainB (l ++ [a]) && feedB a x)
  | [], a, x => by simp [chainB]
  | [b], a, x => by simp [chainB]
  | b :: c :: l, a, x => by
    have ih := chain_snoc (c :: l) a x
    simp only [List.cons_append, chainB] at ih ⊢
    rw [ih, Bool.and_assoc]
theorem chain_tail {a : Sp} {l : List Sp} (h : chainB (a :: l) = true) : chainB l = true := by
  cases l with
  | nil => rfl
  | cons b r =>
    simp only [chainB, Bool.and_eq_true] at h
    exact h.2
theorem chain_drop : ∀ (i : Nat) {l : List Sp}, chainB l = true → chainB (l.drop i) = true
  | 0, _, h => h
  | i + 1, [], h => by simpa using h
  | i + 1, a :: l, h => chain_drop i (chain_tail h)
def nextC (L : List Sp) (a : Sp) : Option Sp := (L.filter fun o => goB a o).head?
def ringGo (L : List Sp) : Nat → List Sp → Option (List Sp)
  | 0, _ => none
  | n + 1, row => match row.getLast? with
    | none => none
    | some a => match nextC L a with
      | none => none
      | some z => if z ∈ row then some (row.drop (row.findIdx (· == z))) else ringGo L n (row ++ [z])
def ringAmong (L : List Sp) : Option (List Sp) := ringGo L L.length (L.take 1)
structure RingOk (L r : List Sp) : Prop where
  sub : ∀ s ∈ r, s ∈ L
  nd : r.Nodup
  cyc : cycB r = true
theorem next_ok {L : List Sp} (h : ∀ s ∈ L, ∃ o ∈ L, goB s o = true) {a : Sp} (ha : a ∈ L) : ∃ z, nextC L a = some z ∧ z ∈ L ∧ feedB a z = true := by
  obtain ⟨o, ho, hg⟩ := h a ha
  have hne : (L.filter fun o => goB a o) ≠ [] := List.ne_nil_of_mem (List.mem_filter.mpr ⟨ho, hg⟩)
  obtain ⟨z, r, e⟩ := List.exists_cons_of_ne_nil hne
  have hz : z ∈ L.filter fun o => goB a o := by rw [e]; exact List.mem_cons_self
  obtain ⟨h1, h2⟩ := List.mem_filter.mp hz
  refine ⟨z, by unfold nextC; rw [e]; rfl, h1, ?_⟩
  unfold goB at h2
  exact (Bool.and_eq_true_iff.mp h2).1
theorem ring_go {L : List Sp} (h : ∀ s ∈ L, ∃ o ∈ L, goB s o = true) : ∀ (n : Nat) (row : List Sp) (a : Sp), (row ++ [a]).Nodup → (∀ s ∈ row ++ [a], s ∈ L) → chainB (row ++ [a]) = true → L.length < n + (row.length + 1) → ∃ r, ringGo L n (row ++ [a]) = some r ∧ RingOk L r
  | 0, row, a, nd, hs, _, hl => by
    have := nodup_len nd hs
    rw [List.length_append, List.length_singleton] at this
    omega
  | n + 1, row, a, nd, hs, hc, hl => by
    obtain ⟨z, h1, h2, h3⟩ := next_ok h (hs a (by simp))
    unfold ringGo
    simp only [List.getLast?_append, List.getLast?_singleton, Option.some_or, h1]
    by_cases hz : z ∈ row ++ [a]
    · rw [if_pos hz]
      have hi : (row ++ [a]).findIdx (· == z) < (row ++ [a]).length := List.findIdx_lt_length_of_exists ⟨z, hz, by simp⟩
      have hget : (row ++ [a])[(row ++ [a]).findIdx (· == z)] = z := by
        have := List.findIdx_getElem (w := hi)
        simpa using this
      have hd : (row ++ [a]).drop ((row ++ [a]).findIdx (· == z)) = z :: (row ++ [a]).drop ((row ++ [a]).findIdx (· == z) + 1) := by
        rw [List.drop_eq_getElem_cons hi, hget]
      refine ⟨_, rfl, fun s hs' => hs s (List.mem_of_mem_drop hs'), nd.sublist (List.drop_sublist _ _), ?_⟩
      have hcc : chainB (row ++ [a] ++ [z]) = true := by rw [chain_snoc, hc, h3]; rfl
      have := chain_drop ((row ++ [a]).findIdx (· == z)) hcc
      rw [List.drop_append_of_le_length (Nat.le_of_lt hi)] at this
      rw [hd] at this ⊢
      exact this
    · rw [if_neg hz]
      have := ring_go h n (row ++ [a]) z (by
        rw [List.nodup_append]
        exact ⟨nd, by simp, fun x hx y hy => by rw [List.mem_singleton.mp hy]; rintro rfl; exact hz hx⟩) (fun s hs' => by
          rcases List.mem_append.mp hs' with q | q
          · exact hs s q
          · rw [List.mem_singleton.mp q]; exact h2) (by rw [chain_snoc, hc, h3]; rfl) (by rw [List.length_append, List.length_singleton]; omega)
      exact this
theorem ringAmong_ok {L : List Sp} (h : ∀ s ∈ L, ∃ o ∈ L, goB s o = true) (hne : L ≠ []) : ∃ r, ringAmong L = some r ∧ RingOk L r := by
  obtain ⟨a, l, rfl⟩ := List.exists_cons_of_ne_nil hne
  exact ring_go h _ [] a (by simp) (by simp) rfl (by simp)
theorem ringAmong_nil : ringAmong [] = none := rfl
theorem cyc_rs {r : List Sp} (h : cycB r = true) : RS r := by
  cases r with
  | nil => cases h
  | cons x xs =>
    refine ⟨x :: xs, by simp, fun s hs => hs, fun s hs => ?_⟩
    have key : ∀ (l : List Sp) (a : Sp), chainB (a :: l) = true → ∀ s ∈ l, ∃ t ∈ a :: l, feedB t s = true := by
      intro l
      induction l with
      | nil => intro a _ s hs; cases hs
      | cons b l ih =>
        intro a hc s hs
        simp only [chainB, Bool.and_eq_true] at hc
        rcases List.mem_cons.mp hs with rfl | hs
        · exact ⟨a, List.mem_cons_self, hc.1⟩
        · obtain ⟨t, ht, hf⟩ := ih b hc.2 s hs
          exact ⟨t, List.mem_cons_of_mem _ ht, hf⟩
    have hs' : s ∈ xs ++ [x] := by
      rcases List.mem_cons.mp hs with rfl | hs
      · simp
      · simp [hs]
    obtain ⟨t, ht, hf⟩ := key (xs ++ [x]) x h s hs'
    refine ⟨t, ?_, hf⟩
    simp only [List.mem_cons, List.mem_append, List.not_mem_nil, or_false] at ht ⊢
    rcases ht with q | q | q
    · exact .inl q
    · exact .inr q
    · exact .inl q
end Ra.K3


set_option Elab.async false
set_option linter.all false
set_option maxRecDepth 100000
namespace Ra.K3
open PySem
def strOf : PyData → Str
  | .str s => s
  | _ => ⟨#[]⟩
def risB : List Str → Bool
  | x :: y :: r => strLt x y && risB (y :: r)
  | _ => true
theorem strLt_trans {x y z : Str} (h1 : strLt x y = true) (h2 : strLt y z = true) : strLt x z = true := by
  simp only [strLt, decide_eq_true_eq] at *
  exact List.lt_trans h1 h2
theorem strLt_ne {x y : Str} (h : strLt x y = true) : x ≠ y := by
  rintro rfl
  simp only [strLt, decide_eq_true_eq] at h
  exact List.lt_irrefl _ h
theorem ris_pair : ∀ {ks : List Str}, risB ks = true ↔ ks.Pairwise fun a b => strLt a b = true
  | [] => by simp [risB]
  | [x] => by simp [risB]
  | x :: y :: r => by
    rw [risB, Bool.and_eq_true, ris_pair (ks := y :: r), List.pairwise_cons (a := x)]
    constructor
    · rintro ⟨h1, h2⟩
      refine ⟨fun z hz => ?_, h2⟩
      rcases List.mem_cons.mp hz with rfl | hz
      · exact h1
      · exact strLt_trans h1 ((List.pairwise_cons.mp h2).1 z hz)
    · rintro ⟨h1, h2⟩
      exact ⟨h1 y List.mem_cons_self, h2⟩
theorem firstS_nodup : ∀ {ks L : List Str}, (L ++ ks).Nodup → firstS L ks = L ++ ks
  | [], L, _ => by simp [firstS]
  | k :: ks, L, h => by
    have hk : k ∉ L := fun hm => by
      have := List.nodup_append.mp h
      exact this.2.2 k hm k List.mem_cons_self rfl
    rw [firstS, if_neg hk, firstS_nodup (by simpa using h)]
    simp
theorem firstS_isNodup : ∀ {ks L : List Str}, L.Nodup → (firstS L ks).Nodup
  | [], _, h => h
  | k :: ks, L, h => by
    rw [firstS]
    split
    · exact firstS_isNodup h
    · rename_i hk
      refine firstS_isNodup (List.nodup_append.mpr ⟨h, by simp, fun x hx y hy => ?_⟩)
      rw [List.mem_singleton.mp hy]
      rintro rfl
      exact hk hx
theorem firstS_mem {x : Str} : ∀ {ks L : List Str}, x ∈ firstS L ks ↔ x ∈ L ∨ x ∈ ks
  | [], L => by simp [firstS]
  | k :: ks, L => by
    rw [firstS, firstS_mem]
    by_cases h : k ∈ L
    · simp only [h, if_true, List.mem_cons]
      constructor
      · rintro (q | q)
        · exact .inl q
        · exact .inr (.inr q)
      · rintro (q | rfl | q)
        · exact .inl q
        · exact .inl h
        · exact .inr q
    · simp [h, or_assoc]
theorem isort_map (L : List Str) : ∃ M : List Str, isort [] (L.map PyData.str) = M.map PyData.str ∧ M.Perm L := by
  have hp := isort_perm (L.map PyData.str) []
  rw [List.nil_append] at hp
  have : ∀ (xs : List PyData), (∀ x ∈ xs, ∃ s, x = PyData.str s) → xs = (xs.map strOf).map PyData.str := by
    intro xs
    induction xs with
    | nil => intro _; rfl
    | cons x xs ih =>
      intro h
      obtain ⟨s, rfl⟩ := h _ List.mem_cons_self
      simp only [List.map_cons, strOf]
      rw [← ih fun y hy => h y (List.mem_cons_of_mem _ hy)]
  refine ⟨(isort [] (L.map PyData.str)).map strOf, this _ fun x hx => ?_, ?_⟩
  · obtain ⟨s, _, rfl⟩ := List.mem_map.mp (hp.mem_iff.mp hx)
    exact ⟨s, rfl⟩
  · have q := hp.map strOf
    rw [List.map_map] at q
    have e : (strOf ∘ PyData.str) = id := rfl
    rw [e, List.map_id] at q
    exact q
theorem str_ext {x y : Str} (h : x.cps.toList = y.cps.toList) : x = y := PySem.W.str_of_cps h
theorem strLt_of {x y : Str} (h : dle (.str x) (.str y) = true) (hn : x ≠ y) : strLt x y = true := by
  rw [dle_str, decide_eq_true_eq] at h
  simp only [strLt, decide_eq_true_eq]
  rcases Decidable.em (x.cps.toList < y.cps.toList) with q | q
  · exact q
  · exact absurd (str_ext (List.le_antisymm h q)) hn
theorem strLt_le {x y : Str} (h : strLt x y = true) : dle (.str x) (.str y) = true := by
  rw [dle_str, decide_eq_true_eq]
  simp only [strLt, decide_eq_true_eq] at h
  exact List.le_of_lt h
/-- rising texts stand as they are sorted -/
theorem isort_ris {ks : List Str} (h : risB ks = true) : isort [] (ks.map PyData.str) = ks.map PyData.str := by
  have hp := ris_pair.mp h
  refine sorted_unique (fun x hx y hy => ?_) (isort_sorted _ _ .nil) ?_ (isort_perm _ [])
  · have hx := (isort_perm _ _).mem_iff.mp hx
    have hy := (isort_perm _ _).mem_iff.mp hy
    obtain ⟨a, _, rfl⟩ := List.mem_map.mp hx
    obtain ⟨b, _, rfl⟩ := List.mem_map.mp hy
    exact dle_anti
  · rw [List.pairwise_map]
    exact hp.imp strLt_le
theorem ris_of_sorted {M : List Str} (h : (M.map PyData.str).Pairwise fun a b => dle a b = true) (nd : M.Nodup) : risB M = true := by
  rw [ris_pair]
  rw [List.pairwise_map] at h
  exact (h.and nd).imp fun ⟨a, b⟩ => strLt_of a b
theorem ris_set (ks M : List Str) (hM : isort [] ((firstS [] ks).map PyData.str) = M.map PyData.str) (hp : M.Perm (firstS [] ks)) : decide (ks = M) = risB ks := by
  have hr : risB M = true := by
    refine ris_of_sorted ?_ (hp.nodup_iff.mpr (firstS_isNodup .nil))
    rw [← hM]
    exact isort_sorted _ _ .nil
  cases h : risB ks with
  | true =>
    rw [decide_eq_true_eq]
    have nd : ks.Nodup := (ris_pair.mp h).imp strLt_ne
    have e := firstS_nodup (ks := ks) (L := []) (by simpa using nd)
    rw [e, List.nil_append, isort_ris h] at hM
    exact (List.map_inj_right (f := PyData.str) fun x y e => by cases e; rfl).mp hM
  | false =>
    rw [decide_eq_false_iff_not]
    rintro rfl
    rw [hr] at h
    cases h
/-! sets -/
def srt (L : List Str) : List Str := (isort [] (L.map PyData.str)).map strOf
theorem srt_eq (L : List Str) : isort [] (L.map PyData.str) = (srt L).map PyData.str ∧ (srt L).Perm L := by
  obtain ⟨M, h1, h2⟩ := isort_map L
  have e : srt L = M := by
    unfold srt
    rw [h1, List.map_map]
    have e : (strOf ∘ PyData.str) = id := rfl
    rw [e, List.map_id]
  rw [e]
  exact ⟨h1, h2⟩
def setS (ks : List Str) : List Str := srt (firstS [] ks)
theorem mem_setS {ks : List Str} {x : Str} : x ∈ setS ks ↔ x ∈ ks := by
  unfold setS
  rw [(srt_eq _).2.mem_iff, firstS_mem]
  simp
theorem ris_setS (ks : List Str) : risB (setS ks) = true := by
  obtain ⟨h1, h2⟩ := srt_eq (firstS [] ks)
  refine ris_of_sorted ?_ (h2.nodup_iff.mpr (firstS_isNodup .nil))
  rw [show setS ks = srt (firstS [] ks) from rfl, ← h1]
  exact isort_sorted _ _ .nil
theorem ris_nodup {ks : List Str} (h : risB ks = true) : ks.Nodup := (ris_pair.mp h).imp strLt_ne
theorem setS_ris {ks : List Str} (h : risB ks = true) : setS ks = ks := by
  have := ris_set ks (setS ks) (srt_eq _).1 (srt_eq _).2
  rw [h, decide_eq_true_eq] at this
  exact this.symm
theorem setS_eq {ks : List Str} : decide (ks = setS ks) = risB ks := ris_set ks (setS ks) (srt_eq _).1 (srt_eq _).2
theorem setS_len {ks : List Str} : (setS ks).length = (firstS [] ks).length := (srt_eq _).2.length_eq
theorem firstS_len : ∀ (ks L : List Str), (firstS L ks).length ≤ L.length + ks.length
  | [], L => by simp [firstS]
  | k :: ks, L => by
    rw [firstS]
    have := firstS_len ks (if k ∈ L then L else L ++ [k])
    split at this <;> rename_i h
    · rw [if_pos h, List.length_cons]; omega
    · rw [if_neg h, List.length_cons]
      rw [List.length_append, List.length_singleton] at this
      omega
theorem firstS_lt : ∀ (ks L : List Str), L.Nodup → ¬ (L ++ ks).Nodup → (firstS L ks).length < L.length + ks.length
  | [], L, h, hn => absurd (by simpa using h) hn
  | k :: ks, L, h, hn => by
    rw [firstS]
    by_cases hk : k ∈ L
    · rw [if_pos hk, List.length_cons]
      have := firstS_len ks L
      omega
    · rw [if_neg hk, List.length_cons]
      have := firstS_lt ks (L ++ [k]) (by
        rw [List.nodup_append]
        exact ⟨h, by simp, fun x hx y hy => by rw [List.mem_singleton.mp hy]; rintro rfl; exact hk hx⟩) (by simpa using hn)
      rw [List.length_append, List.length_singleton] at this
      omega
theorem firstS_lt_iff (ks : List Str) : (firstS [] ks).length < ks.length ↔ ¬ ks.Nodup := by
  constructor
  · intro h nd
    rw [firstS_nodup (by simpa using nd)] at h
    simp at h
  · intro h
    have := firstS_lt ks [] .nil (by simpa using h)
    simpa using this
theorem ris_sub : ∀ {a b : List Str}, risB a = true → risB b = true → (∀ x ∈ a, x ∈ b) → a.Sublist b := by
  intro a b
  induction b generalizing a with
  | nil =>
    intro _ _ h
    cases a with
    | nil => exact .slnil
    | cons x a => exact absurd (h x List.mem_cons_self) (by simp)
  | cons y b ih =>
    intro ha hb h
    cases a with
    | nil => exact List.nil_sublist _
    | cons x a =>
      have pa := ris_pair.mp ha
      have pb := ris_pair.mp hb
      obtain ⟨pa1, pa2⟩ := List.pairwise_cons.mp pa
      obtain ⟨pb1, pb2⟩ := List.pairwise_cons.mp pb
      rcases List.mem_cons.mp (h x List.mem_cons_self) with rfl | hx
      · refine List.Sublist.cons₂ _ (ih (ris_pair.mpr pa2) (ris_pair.mpr pb2) fun z hz => ?_)
        rcases List.mem_cons.mp (h z (List.mem_cons_of_mem _ hz)) with rfl | hz'
        · exact absurd rfl (strLt_ne (pa1 z hz))
        · exact hz'
      · refine List.Sublist.cons _ (ih ha (ris_pair.mpr pb2) fun z hz => ?_)
        rcases List.mem_cons.mp (h z hz) with rfl | hz'
        · rcases List.mem_cons.mp hz with rfl | hz
          · exact absurd rfl (strLt_ne (pb1 z hx))
          · exact absurd rfl (strLt_ne (strLt_trans (pb1 x hx) (pa1 z hz)))
        · exact hz'
/-! all rows of flags -/
def subsF : List (List Str) → List Str → List (List Str)
  | found, [] => found
  | found, f :: r => subsF (found ++ found.map (· ++ [f])) r
theorem mem_subsF : ∀ {fl : List Str} {found : List (List Str)} {v : List Str}, v ∈ subsF found fl ↔ ∃ u ∈ found, ∃ w, w.Sublist fl ∧ v = u ++ w
  | [], found, v => by
    constructor
    · intro h
      exact ⟨v, h, [], .slnil, by simp⟩
    · rintro ⟨u, hu, w, hw, rfl⟩
      have : w = [] := by simpa using hw
      subst this
      simpa [subsF] using hu
  | f :: r, found, v => by
    rw [subsF, mem_subsF]
    constructor
    · rintro ⟨u, hu, w, hw, rfl⟩
      rcases List.mem_append.mp hu with hu | hu
      · exact ⟨u, hu, w, .cons _ hw, rfl⟩
      · obtain ⟨u', hu', rfl⟩ := List.mem_map.mp hu
        exact ⟨u', hu', f :: w, .cons₂ _ hw, by simp⟩
    · rintro ⟨u, hu, w, hw, rfl⟩
      cases hw with
      | cons _ hw => exact ⟨u, List.mem_append_left _ hu, _, hw, rfl⟩
      | cons_cons _ hw => exact ⟨u ++ [f], List.mem_append_right _ (List.mem_map.mpr ⟨u, hu, rfl⟩), _, hw, by simp⟩
def subs (fl : List Str) : List (List Str) := subsF [[]] fl
theorem mem_subs {fl v : List Str} : v ∈ subs fl ↔ v.Sublist fl := by
  unfold subs
  rw [mem_subsF]
  constructor
  · rintro ⟨u, hu, w, hw, rfl⟩
    rw [List.mem_singleton.mp hu]
    exact hw
  · intro h
    exact ⟨[], by simp, v, h, rfl⟩
/-! the order of the law -/
def rdyB (left : List Sp) (s : Sp) : Bool := s.rd.all fun p => !decide (p ∈ left.map Sp.sh)
def rdy (left : List Sp) : List Sp := left.filter (rdyB left)
def nxt (left : List Sp) : List Sp := if rdy left = [] then [] else left.filter fun s => !decide (s ∈ rdy left)
def onGo : Nat → List Sp → List Sp → List Sp
  | 0, _, found => found
  | n + 1, left, found => if left = [] then found else onGo n (nxt left) (found ++ rdy left)
theorem filter_split {α : Type} (p : α → Bool) : ∀ l : List α, (l.filter p).length + (l.filter fun x => !p x).length = l.length
  | [] => rfl
  | x :: l => by
    have := filter_split p l
    cases h : p x <;> simp [h] <;> omega
theorem nxt_eq {left : List Sp} (h : rdy left ≠ []) : nxt left = left.filter fun s => !rdyB left s := by
  unfold nxt
  rw [if_neg h]
  refine List.filter_congr fun s hs => ?_
  congr 1
  rw [Bool.eq_iff_iff, decide_eq_true_eq]
  unfold rdy
  rw [List.mem_filter]
  exact ⟨fun q => q.2, fun q => ⟨hs, q⟩⟩
theorem nxt_len {left : List Sp} (h : rdy left ≠ []) : (rdy left).length + (nxt left).length = left.length := by
  rw [nxt_eq h]
  exact filter_split _ _
theorem not_rdy {left : List Sp} {s : Sp} : rdyB left s = false ↔ ∃ t ∈ left, feedB t s = true := by
  rw [Bool.eq_false_iff]
  unfold rdyB feedB
  rw [ne_eq, List.all_eq_true]
  simp only [Bool.not_eq_true', decide_eq_false_iff_not, decide_eq_true_eq]
  constructor
  · intro h
    obtain ⟨p, hp⟩ := Classical.not_forall.mp h
    obtain ⟨h1, h2⟩ := Classical.not_imp.mp hp
    obtain ⟨t, ht, e⟩ := List.mem_map.mp (Classical.not_not.mp h2)
    exact ⟨t, ht, e ▸ h1⟩
  · rintro ⟨t, ht, hf⟩ h
    exact h _ hf (List.mem_map.mpr ⟨t, ht, rfl⟩)
theorem on_le : ∀ (n : Nat) (left found : List Sp), (onGo n left found).length ≤ found.length + left.length
  | 0, left, found => by simp [onGo]
  | n + 1, left, found => by
    unfold onGo
    split
    · omega
    · have := on_le n (nxt left) (found ++ rdy left)
      rw [List.length_append] at this
      by_cases h : rdy left = []
      · have e : nxt left = [] := by unfold nxt; rw [if_pos h]
        rw [e, h] at this ⊢
        simp at this ⊢
        omega
      · have := nxt_len h
        omega
theorem on_stuck : ∀ (n : Nat) (left found : List Sp), left.length < n → RS left → (onGo n left found).length < found.length + left.length
  | 0, _, _, h, _ => by omega
  | n + 1, left, found, hl, ⟨Q, h1, h2, h3⟩ => by
    obtain ⟨s, hs⟩ := List.exists_mem_of_ne_nil Q h1
    have hne : left ≠ [] := List.ne_nil_of_mem (h2 s hs)
    have hpos : 0 < left.length := List.length_pos_iff.mpr hne
    unfold onGo
    rw [if_neg hne]
    by_cases h : rdy left = []
    · have e : nxt left = [] := by unfold nxt; rw [if_pos h]
      have := on_le n (nxt left) (found ++ rdy left)
      rw [e, h] at this ⊢
      simp at this ⊢
      omega
    · have hlen := nxt_len h
      have hrp : 0 < (rdy left).length := List.length_pos_iff.mpr h
      have := on_stuck n (nxt left) (found ++ rdy left) (by omega) ⟨Q, h1, fun s hs => by
        rw [nxt_eq h, List.mem_filter]
        obtain ⟨t, ht, hf⟩ := h3 s hs
        exact ⟨h2 s hs, by rw [not_rdy.mpr ⟨t, h2 t ht, hf⟩]; rfl⟩, h3⟩
      rw [List.length_append] at this
      omega
theorem on_full : ∀ (n : Nat) (left found : List Sp), left.length < n → ¬ RS left → (onGo n left found).length = found.length + left.length
  | 0, _, _, h, _ => by omega
  | n + 1, left, found, hl, hr => by
    unfold onGo
    split
    · rename_i e
      simp [e]
    · rename_i hne
      by_cases h : rdy left = []
      · exfalso
        apply hr
        refine ⟨left, hne, fun s hs => hs, fun s hs => ?_⟩
        refine not_rdy.mp ?_
        rw [Bool.eq_false_iff]
        intro q
        have : s ∈ rdy left := List.mem_filter.mpr ⟨hs, q⟩
        rw [h] at this
        cases this
      · have hlen := nxt_len h
        have hrp : 0 < (rdy left).length := List.length_pos_iff.mpr h
        have := on_full n (nxt left) (found ++ rdy left) (by omega) fun ⟨Q, h1, h2, h3⟩ => hr ⟨Q, h1, fun s hs => by
          have := h2 s hs
          rw [nxt_eq h] at this
          exact (List.mem_filter.mp this).1, h3⟩
        rw [List.length_append] at this
        omega
def live (V : List Str) (P : List Sp) : List Sp := P.filter fun s => holdB s.cd V
def badAt (V : List Str) (P : List Sp) : Prop := ¬ ((live V P).map Sp.sh).Nodup ∨ RS (live V P)
/-! two makers -/
def mkOne (a : Sp) (r : List Sp) : Option Sp := r.find? fun b => decide (a.sh = b.sh) && !clashB a.cd b.cd
def mkP : List Sp → Option (Sp × Sp)
  | [] => none
  | a :: r => match mkOne a r with
    | some b => some (a, b)
    | none => mkP r
theorem mk_some : ∀ {P : List Sp} {a b : Sp}, mkP P = some (a, b) → [a, b].Sublist P ∧ a.sh = b.sh ∧ clashB a.cd b.cd = false
  | [], _, _, h => by cases h
  | x :: r, a, b, h => by
    unfold mkP at h
    split at h
    · rename_i c hc
      cases h
      have h1 := List.mem_of_find?_eq_some hc
      have h2 := List.find?_some hc
      simp only [Bool.and_eq_true, decide_eq_true_eq, Bool.not_eq_true'] at h2
      exact ⟨.cons₂ _ (List.singleton_sublist.mpr h1), h2.1, h2.2⟩
    · obtain ⟨h1, h2⟩ := mk_some h
      exact ⟨.cons _ h1, h2⟩
theorem mk_none : ∀ {P : List Sp}, mkP P = none → P.Pairwise fun a b => a.sh = b.sh → clashB a.cd b.cd = true
  | [], _ => .nil
  | x :: r, h => by
    unfold mkP at h
    split at h
    · cases h
    · rename_i hc
      refine List.pairwise_cons.mpr ⟨fun b hb e => ?_, mk_none h⟩
      have := List.find?_eq_none.mp hc b hb
      simpa [e] using this
/-- a plan that is served -/
structure WP (P : List Sp) : Prop where
  ris : risB (P.map Sp.nm) = true
  ok : ∀ s ∈ P, OkC s.cd
def flagsL (P : List Sp) : List Str := P.flatMap fun s => s.cd.map (·.1)
def flagsS (P : List Sp) : List Str := setS (flagsL P)
theorem mem_flags {P : List Sp} {f : Str} : f ∈ flagsS P ↔ ∃ s ∈ P, ∃ a, (f, a) ∈ s.cd := by
  unfold flagsS flagsL
  rw [mem_setS, List.mem_flatMap]
  constructor
  · rintro ⟨s, hs, h⟩
    obtain ⟨⟨g, a⟩, h1, h2⟩ := List.mem_map.mp h
    simp only at h2
    subst h2
    exact ⟨s, hs, a, h1⟩
  · rintro ⟨s, hs, a, h⟩
    exact ⟨s, hs, List.mem_map.mpr ⟨_, h, rfl⟩⟩
theorem meet_flags {L P : List Sp} (h : ∀ s ∈ L, s ∈ P) : (setS (meetF L)).Sublist (flagsS P) := by
  refine ris_sub (ris_setS _) (ris_setS _) fun f hf => ?_
  rw [mem_setS, mem_meet] at hf
  obtain ⟨s, hs, hm⟩ := hf
  exact mem_flags.mpr ⟨s, h s hs, 1, hm⟩
theorem WP.nd {P : List Sp} (h : WP P) : P.Nodup := by
  have := ris_nodup h.ris
  rw [List.Nodup, List.pairwise_map] at this
  exact this.imp fun hn e => hn (by rw [e])
theorem WP.inj {P : List Sp} (h : WP P) {a b : Sp} (ha : a ∈ P) (hb : b ∈ P) (e : a.nm = b.nm) : a = b := inj_of_nodup Sp.nm (ris_nodup h.ris) ha hb e
/-- what two makers show -/
theorem mk_hold {P : List Sp} (h : WP P) {a b : Sp} (hm : mkP P = some (a, b)) : ∀ s ∈ [a, b], s ∈ P ∧ holdB s.cd (setS (meetF [a, b])) = true := by
  obtain ⟨h1, h2, h3⟩ := mk_some hm
  have hs : ∀ s ∈ [a, b], s ∈ P := fun s hs => h1.subset hs
  have hc := hold_meet (L := [a, b]) (V := setS (meetF [a, b])) (fun f => mem_setS) fun s hs' t ht f x y m1 m2 => by
    have key : ∀ u v : Sp, u ∈ [a, b] → v ∈ [a, b] → clashB u.cd v.cd = false → (f, x) ∈ u.cd → (f, y) ∈ v.cd → x = y := fun u v hu hv hc m1 m2 => by
      rw [Bool.eq_false_iff] at hc
      exact Classical.not_not.mp fun hn => hc ((clash_iff (h.ok u (hs u hu))).mpr ⟨f, x, y, m1, m2, hn⟩)
    have self : ∀ u : Sp, u ∈ [a, b] → (f, x) ∈ u.cd → (f, y) ∈ u.cd → x = y := fun u hu m1 m2 => by
      have := inj_of_nodup (·.1) (h.ok u (hs u hu)).nd m1 m2 rfl
      cases this; rfl
    have hba : clashB b.cd a.cd = false := by
      rw [Bool.eq_false_iff] at h3 ⊢
      intro q
      obtain ⟨f, x, y, q1, q2, q3⟩ := (clash_iff (h.ok b (hs b (by simp)))).mp q
      exact h3 ((clash_iff (h.ok a (hs a (by simp)))).mpr ⟨f, y, x, q2, q1, fun e => q3 e.symm⟩)
    simp only [List.mem_cons, List.not_mem_nil, or_false] at hs' ht
    rcases hs' with rfl | rfl <;> rcases ht with rfl | rfl
    · exact self _ (by simp) m1 m2
    · exact key _ _ (by simp) (by simp) h3 m1 m2
    · exact key _ _ (by simp) (by simp) hba m1 m2
    · exact self _ (by simp) m1 m2
  exact fun s hs' => ⟨hs s hs', hc s hs'⟩
theorem mk_bad {P : List Sp} (h : WP P) {a b : Sp} (hm : mkP P = some (a, b)) : ∃ V, V.Sublist (flagsS P) ∧ badAt V P := by
  obtain ⟨h1, h2, h3⟩ := mk_some hm
  have hh := mk_hold h hm
  refine ⟨_, meet_flags fun s hs => (hh s hs).1, .inl fun nd => ?_⟩
  have ha := hh a (by simp)
  have hb := hh b (by simp)
  have e := inj_of_nodup Sp.sh nd (List.mem_filter.mpr ha) (List.mem_filter.mpr hb) h2
  have nd2 := h.nd.sublist h1
  rw [e] at nd2
  simp at nd2
theorem bad_mk {P : List Sp} (h : WP P) {V : List Str} (hb : ¬ ((live V P).map Sp.sh).Nodup) : mkP P ≠ none := by
  intro hn
  apply hb
  rw [List.Nodup, List.pairwise_map]
  have hp : (live V P).Pairwise fun a b => a.sh = b.sh → clashB a.cd b.cd = true := (mk_none hn).sublist List.filter_sublist
  refine hp.imp_of_mem fun {a b} ha hb' q e => ?_
  obtain ⟨a1, a2⟩ := List.mem_filter.mp ha
  obtain ⟨b1, b2⟩ := List.mem_filter.mp hb'
  have := noclash (h.ok a a1) (h.ok b b1) a2 b2
  rw [q e] at this
  cases this
/-! rings -/
def ringAt (P : List Sp) (v : List Str) : Option (List Sp) := ringAmong (core (live v (core P)))
theorem hold_cut {P : List Sp} {V : List Str} {s : Sp} (hs : s ∈ P) : holdB s.cd ((flagsS P).filter fun f => decide (f ∈ V)) = holdB s.cd V := by
  rw [Bool.eq_iff_iff, hold_iff, hold_iff]
  have key : ∀ f a, (f, a) ∈ s.cd → (f ∈ (flagsS P).filter (fun f => decide (f ∈ V)) ↔ f ∈ V) := fun f a hm => by
    rw [List.mem_filter, decide_eq_true_eq]
    exact ⟨fun q => q.2, fun q => ⟨mem_flags.mpr ⟨s, hs, a, hm⟩, q⟩⟩
  constructor
  · intro h f a hm
    rw [← key f a hm]
    exact h f a hm
  · intro h f a hm
    rw [key f a hm]
    exact h f a hm
theorem flags_core {P : List Sp} : (flagsS (core P)).Sublist (flagsS P) := ris_sub (ris_setS _) (ris_setS _) fun f hf => by
  obtain ⟨s, hs, a, hm⟩ := mem_flags.mp hf
  exact mem_flags.mpr ⟨s, (core_sub P).subset hs, a, hm⟩
/-- a ring that is found -/
theorem ringAt_ok {P : List Sp} (h : WP P) {v : List Str} {r : List Sp} (hr : ringAt P v = some r) : RingOk (live v P) r := by
  have hne : core (live v (core P)) ≠ [] := fun e => by
    unfold ringAt at hr
    rw [e, ringAmong_nil] at hr
    cases hr
  obtain ⟨r', h1, h2⟩ := ringAmong_ok (core_next _) hne
  have : r' = r := by
    unfold ringAt at hr
    rw [h1] at hr
    exact Option.some.inj hr
  subst this
  refine ⟨fun s hs => ?_, h2.nd, h2.cyc⟩
  obtain ⟨q1, q2⟩ := List.mem_filter.mp ((core_sub _).subset (h2.sub s hs))
  exact List.mem_filter.mpr ⟨(core_sub P).subset q1, q2⟩
theorem bad_ring {P : List Sp} (h : WP P) {V : List Str} (hb : RS (live V P)) : ∃ v, v.Sublist (flagsS (core P)) ∧ ringAt P v ≠ none := by
  have h1 : Ring V (core P) := core_ring h.ok (ring_rs.mpr hb)
  refine ⟨(flagsS (core P)).filter fun f => decide (f ∈ V), List.filter_sublist, ?_⟩
  have hok : ∀ s ∈ live ((flagsS (core P)).filter fun f => decide (f ∈ V)) (core P), OkC s.cd := fun s hs => h.ok s ((core_sub P).subset (List.mem_filter.mp hs).1)
  have h2 : Ring ((flagsS (core P)).filter fun f => decide (f ∈ V)) (live ((flagsS (core P)).filter fun f => decide (f ∈ V)) (core P)) := by
    obtain ⟨Q, q1, q2, q3⟩ := h1
    refine ⟨Q, q1, fun s hs => ?_, q3⟩
    obtain ⟨c1, c2⟩ := q2 s hs
    have := hold_cut (V := V) c1
    rw [c2] at this
    exact ⟨List.mem_filter.mpr ⟨c1, this⟩, this⟩
  obtain ⟨Q, q1, q2, _⟩ := core_ring hok h2
  obtain ⟨s, hs⟩ := List.exists_mem_of_ne_nil Q q1
  have hne := List.ne_nil_of_mem (q2 s hs).1
  obtain ⟨r, hr, _⟩ := ringAmong_ok (core_next _) hne
  intro e
  unfold ringAt at e
  rw [hr] at e
  cases e
theorem ring_bad {P : List Sp} (h : WP P) {v : List Str} {r : List Sp} (hr : ringAt P v = some r) : badAt v P := by
  have := ringAt_ok h hr
  obtain ⟨Q, q1, q2, q3⟩ := cyc_rs this.cyc
  exact .inr ⟨Q, q1, fun s hs => this.sub s (q2 s hs), q3⟩
/-- steps of a ring hold where their flags meet -/
theorem ring_hold {P : List Sp} (h : WP P) {v : List Str} {r : List Sp} (hr : ringAt P v = some r) : ∀ s ∈ r, s ∈ P ∧ holdB s.cd (setS (meetF r)) = true := by
  have hk := ringAt_ok h hr
  have hm : ∀ s ∈ r, s ∈ P ∧ holdB s.cd v = true := fun s hs => List.mem_filter.mp (hk.sub s hs)
  have := hold_meet (L := r) (V := setS (meetF r)) (fun f => mem_setS) fun s hs t ht f a b m1 m2 => same_of_hold (h.ok s (hm s hs).1) (h.ok t (hm t ht).1) (hm s hs).2 (hm t ht).2 m1 m2
  exact fun s hs => ⟨(hm s hs).1, this s hs⟩
/-- sound: at no row of flags is it bad -/
theorem sound_iff {P : List Sp} (h : WP P) {vs : List (List Str)} (hv : ∀ v, v ∈ vs ↔ v.Sublist (flagsS (core P))) : (mkP P = none ∧ vs.findSome? (ringAt P) = none) ↔ ∀ V, V.Sublist (flagsS P) → ¬ badAt V P := by
  constructor
  · rintro ⟨h1, h2⟩ V hV hb
    rcases hb with hb | hb
    · exact bad_mk h hb h1
    · obtain ⟨v, q1, q2⟩ := bad_ring h hb
      exact q2 (List.findSome?_eq_none_iff.mp h2 v ((hv v).mpr q1))
  · intro hb
    refine ⟨?_, ?_⟩
    · cases e : mkP P with
      | none => rfl
      | some p =>
        obtain ⟨V, q1, q2⟩ := mk_bad h (a := p.1) (b := p.2) e
        exact absurd q2 (hb V q1)
    · rw [List.findSome?_eq_none_iff]
      intro v hm
      cases e : ringAt P v with
      | none => rfl
      | some r => exact absurd (ring_bad h e) (hb v (((hv v).mp hm).trans flags_core))
end Ra.K3


set_option Elab.async false
set_option linter.all false
set_option maxRecDepth 100000
set_option maxHeartbeats 400000
namespace Ra.K3
open PySem M _root_.K1
abbrev T : List Fn := D.map Df.fnT
def encC (cd : List (Str × Int)) : PyData := .tuple (cd.map fun p => .tuple [.str p.1, .int p.2])
def enc (s : Sp) : PyData := .tuple [.str s.nm, .str s.me, .tuple (s.rd.map PyData.str), .str s.sh, encC s.cd]
def encP (P : List Sp) : PyData := .tuple (P.map enc)
def encV (V : List Str) : PyData := .tuple (V.map PyData.str)
section
variable {α : Type}
theorem lcLoop_of {t : Tg} {tests : List P} {elt : P} {gs : List Nat} {env : Env} {m : Mem} (e : α → PyData) (p : α → Bool) (f : α → PyData) (hg : same gs m m = true) : ∀ {xs : List α},
    (∀ x ∈ xs, ∃ env', asg t (e x) env = some env' ∧ tAll tests env' m = .ok (p x) m ∧ (p x = true → ∃ v, elt.v env' m = .ok v m ∧ frz v m = .ok (f x) m)) → lcLoop t tests elt gs env (xs.map e) m = .ok ((xs.filter p).map f) m
  | [], _ => rfl
  | x :: xs, h => by
    obtain ⟨env', h1, h2, h3⟩ := h x List.mem_cons_self
    have ih := lcLoop_of (t := t) (tests := tests) (elt := elt) (env := env) e p f hg (xs := xs) fun y hy => h y (List.mem_cons_of_mem _ hy)
    rw [List.map_cons]
    unfold lcLoop
    rw [h1]
    simp only [h2, Res.bind_ok]
    cases hp : p x with
    | false => simp [hg, ih, hp]
    | true =>
      obtain ⟨v, h4, h5⟩ := h3 hp
      simp [h4, h5, hg, ih, hp]
theorem lcLoop_ofm {t : Tg} {call : Call} {elt : P} {gs : List Nat} {env : Env} {m : Mem} (e : α → PyData) (f : α → PyData) (hg : same gs m m = true) {xs : List α}
    (h : ∀ x ∈ xs, ∃ env', asg t (e x) env = some env' ∧ ∃ v, elt.v env' m = .ok v m ∧ frz v m = .ok (f x) m) : lcLoop t (sems call []) elt gs env (xs.map e) m = .ok (xs.map f) m := by
  rw [lcLoop_of e (fun _ => true) f hg]
  · rw [List.filter_eq_self.mpr fun _ _ => rfl]
  · intro x hx
    obtain ⟨env', h1, h2⟩ := h x hx
    exact ⟨env', h1, rfl, fun _ => h2⟩
theorem lc2Loop_of {t : Tg} {tests : List P} {inner : Nat → Env → Mem → Res (List PyData)} {gs : List Nat} {env : Env} {m : Mem} (e : α → PyData) (f : α → List PyData) (hg : same gs m m = true) (B : Nat) (ht : ∀ env', tAll tests env' m = .ok true m) : ∀ {xs : List α} {n : Nat}, (n + (xs.flatMap f).length ≤ B) →
    (∀ x ∈ xs, ∃ env', asg t (e x) env = some env' ∧ (∀ n, n + (f x).length ≤ B → inner n env' m = .ok (f x) m)) → lc2Loop t tests inner gs env n (xs.map e) m = .ok (xs.flatMap f) m
  | [], n, _, _ => rfl
  | x :: xs, n, hB, h => by
    obtain ⟨env', h1, h3⟩ := h x List.mem_cons_self
    rw [List.flatMap_cons, List.length_append] at hB
    rw [List.map_cons]
    unfold lc2Loop
    rw [h1]
    simp only [ht, Res.bind_ok, if_true, h3 n (by omega), hg]
    rw [lc2Loop_of (t := t) (tests := tests) (inner := inner) (env := env) e f hg B ht (xs := xs) (n := n + (f x).length) (by omega) fun y hy => h y (List.mem_cons_of_mem _ hy)]
    rw [List.flatMap_cons]
    rfl
/-- a search -/
theorem forLoop_find {t : Tg} {body : EX} {gs : List Nat} {m : Mem} (e : α → PyData) (p : α → Option Val) (J : Env → Prop) (hg : same gs m m = true) : ∀ {xs : List α} {env : Env}, J env →
    (∀ x ∈ xs, ∀ env, J env → ∃ env1, asg t (e x) env = some env1 ∧ (match p x with | some v => body env1 m = .ok (.ret v) m | none => ∃ env2, body env1 m = .ok (.next env2) m ∧ J env2)) →
    (∃ v, xs.findSome? p = some v ∧ forLoop t body gs (xs.map e) env m = .ok (.ret v) m) ∨ (xs.findSome? p = none ∧ ∃ env', forLoop t body gs (xs.map e) env m = .ok (.next env') m ∧ J env')
  | [], env, hJ, _ => .inr ⟨rfl, env, rfl, hJ⟩
  | x :: xs, env, hJ, h => by
    obtain ⟨env1, h1, h2⟩ := h x List.mem_cons_self env hJ
    rw [List.map_cons]
    unfold forLoop
    rw [h1]
    cases hp : p x with
    | some v =>
      rw [hp] at h2
      exact .inl ⟨v, by simp [hp], by simp [h2]⟩
    | none =>
      rw [hp] at h2
      obtain ⟨env2, h3, h4⟩ := h2
      have ih := forLoop_find (t := t) (body := body) (gs := gs) e p J hg (xs := xs) h4 fun y hy => h y (List.mem_cons_of_mem _ hy)
      simp only [h3, Res.bind_ok, hg, if_true, List.findSome?_cons, hp]
      exact ih
end
/-! data -/
theorem idx0 (a : PyData) (r : List PyData) : idx (.tuple (a :: r)) (.int 0) = some a := by simp [idx, L2.atI, L2.ixN]
theorem idx1 (a b : PyData) (r : List PyData) : idx (.tuple (a :: b :: r)) (.int 1) = some b := by
  have : (1 : Int) < r.length + 1 + 1 := by omega
  simp [idx, L2.atI, L2.ixN, this]
theorem idx2 (a b c : PyData) (r : List PyData) : idx (.tuple (a :: b :: c :: r)) (.int 2) = some c := by
  have : (2 : Int) < r.length + 1 + 1 + 1 := by omega
  simp [idx, L2.atI, L2.ixN, this]
theorem idx3 (a b c d : PyData) (r : List PyData) : idx (.tuple (a :: b :: c :: d :: r)) (.int 3) = some d := by
  have : (3 : Int) < r.length + 1 + 1 + 1 + 1 := by omega
  simp [idx, L2.atI, L2.ixN, this]
theorem idx4 (a b c d e : PyData) (r : List PyData) : idx (.tuple (a :: b :: c :: d :: e :: r)) (.int 4) = some e := by
  have : (4 : Int) < r.length + 1 + 1 + 1 + 1 + 1 := by omega
  simp [idx, L2.atI, L2.ixN, this]
theorem e0 (s : Sp) : idx (enc s) (.int 0) = some (.str s.nm) := idx0 _ _
theorem e2 (s : Sp) : idx (enc s) (.int 2) = some (.tuple (s.rd.map PyData.str)) := idx2 _ _ _ _
theorem e3 (s : Sp) : idx (enc s) (.int 3) = some (.str s.sh) := idx3 _ _ _ _ _
theorem e4 (s : Sp) : idx (enc s) (.int 4) = some (encC s.cd) := idx4 _ _ _ _ _ _
theorem cmp_eqB (a b : Bool) : cmp .eq (.bool a) (.bool b) = some (a == b) := by
  cases a <;> cases b <;> decide
theorem cmp_neB (a b : Bool) : cmp .ne (.bool a) (.bool b) = some (!(a == b)) := by
  cases a <;> cases b <;> decide
theorem depth_str (s : Str) : (PyData.str s).depth = 0 := by simp [PyData.depth]
theorem cmp_eqS (a b : Str) : cmp .eq (.str a) (.str b) = some (decide (a = b)) := by
  have hd : deep (.str a) (.str b) = true := decide_eq_true (by rw [depth_str, depth_str]; decide)
  show (if deep (.str a) (.str b) = true then some (PyData.eqv (.str a) (.str b)) else none) = _
  rw [if_pos hd, eqv_str]
  congr 1
theorem any_strs (x : Str) : ∀ ys : List Str, ((ys.map PyData.str).any fun y => PyData.eqv y (.str x)) = decide (x ∈ ys)
  | [] => rfl
  | y :: ys => by
    rw [List.map_cons, List.any_cons, any_strs x ys, eqv_str]
    by_cases h : y = x
    · subst h; simp
    · have h' : ¬ x = y := fun e => h e.symm
      simp [h, h']
theorem in_strsT (x : Str) (ys : List Str) : inD (.str x) (.tuple (ys.map PyData.str)) = some (decide (x ∈ ys)) := by
  show inAll _ _ = _
  unfold inAll
  rw [if_pos (by rw [depth_str]; decide), any_strs]
theorem in_strsL (x : Str) (ys : List Str) : inD (.str x) (.list (ys.map PyData.str)) = some (decide (x ∈ ys)) := by
  show inAll _ _ = _
  unfold inAll
  rw [if_pos (by rw [depth_str]; decide), any_strs]
@[simp] theorem cmp_inT (x : Str) (ys : List Str) : cmp .isin (.str x) (.tuple (ys.map PyData.str)) = some (decide (x ∈ ys)) := in_strsT x ys
@[simp] theorem cmp_inL (x : Str) (ys : List Str) : cmp .isin (.str x) (.list (ys.map PyData.str)) = some (decide (x ∈ ys)) := in_strsL x ys
@[simp] theorem cmp_ninT (x : Str) (ys : List Str) : cmp .notin (.str x) (.tuple (ys.map PyData.str)) = some (!decide (x ∈ ys)) := by
  show (inD (.str x) (.tuple (ys.map PyData.str))).map (!·) = _
  rw [in_strsT]; rfl
@[simp] theorem cmp_ninL (x : Str) (ys : List Str) : cmp .notin (.str x) (.list (ys.map PyData.str)) = some (!decide (x ∈ ys)) := by
  show (inD (.str x) (.list (ys.map PyData.str))).map (!·) = _
  rw [in_strsL]; rfl
theorem eqvAll_map {α : Type} [DecidableEq α] (f : α → PyData) (h : ∀ a b, PyData.eqv (f a) (f b) = decide (a = b)) : ∀ xs ys : List α, PyData.eqvAll (xs.map f) (ys.map f) = decide (xs = ys)
  | [], [] => by simp [PyData.eqvAll]
  | [], _ :: _ => by simp [PyData.eqvAll]
  | _ :: _, [] => by simp [PyData.eqvAll]
  | k :: ks, j :: js => by
    simp only [List.map_cons, PyData.eqvAll, eqvAll_map f h ks js, h, List.cons.injEq]
    by_cases h : k = j <;> simp [h]
theorem eqv_pr (a b : Str × Int) : PyData.eqv (.tuple [.str a.1, .int a.2]) (.tuple [.str b.1, .int b.2]) = decide (a = b) := by
  obtain ⟨a, x⟩ := a
  obtain ⟨b, y⟩ := b
  simp only [PyData.eqv, PyData.eqvAll, eqv_str, eqv_int, Prod.mk.injEq]
  by_cases h : a = b <;> by_cases h' : x = y <;> simp [h, h']
theorem eqv_strd (a b : Str) : PyData.eqv (.str a) (.str b) = decide (a = b) := by
  rw [eqv_str]; rfl
theorem eqv_enc (a b : Sp) : PyData.eqv (enc a) (enc b) = decide (a = b) := by
  obtain ⟨a1, a2, a3, a4, a5⟩ := a
  obtain ⟨b1, b2, b3, b4, b5⟩ := b
  simp only [enc, encC, PyData.eqv, PyData.eqvAll, eqv_strd, eqvAll_map _ eqv_pr, eqvAll_map _ eqv_strd, Sp.mk.injEq]
  by_cases h1 : a1 = b1 <;> by_cases h2 : a2 = b2 <;> by_cases h3 : a3 = b3 <;> by_cases h4 : a4 = b4 <;> by_cases h5 : a5 = b5 <;> simp [h1, h2, h3, h4, h5]
theorem depthAll_le {d : Nat} : ∀ {xs : List PyData}, (∀ x ∈ xs, x.depth ≤ d) → PyData.depthAll xs ≤ d
  | [], _ => by simp [PyData.depthAll]
  | x :: xs, h => by
    rw [PyData.depthAll]
    exact Nat.max_le.mpr ⟨h x List.mem_cons_self, depthAll_le fun y hy => h y (List.mem_cons_of_mem _ hy)⟩
theorem depth_strs : ∀ L : List Str, PyData.depthAll (L.map PyData.str) = 0
  | [] => by simp [PyData.depthAll]
  | x :: L => by
    have := depth_strs L
    simp only [List.map_cons, PyData.depthAll, PyData.depth, this]
    rfl
theorem depth_encC (cd : List (Str × Int)) : (encC cd).depth ≤ 2 := by
  unfold encC
  rw [PyData.depth]
  have : PyData.depthAll (cd.map fun p => PyData.tuple [.str p.1, .int p.2]) ≤ 1 := depthAll_le fun x hx => by
    obtain ⟨p, _, rfl⟩ := List.mem_map.mp hx
    simp [PyData.depth, PyData.depthAll]
  omega
theorem depth_enc (s : Sp) : (enc s).depth ≤ 3 := by
  unfold enc
  have h1 := depth_encC s.cd
  have h2 := depth_strs s.rd
  rw [PyData.depth]
  have : PyData.depthAll [.str s.nm, .str s.me, .tuple (s.rd.map PyData.str), .str s.sh, encC s.cd] ≤ 2 := depthAll_le fun x hx => by
    simp only [List.mem_cons, List.not_mem_nil, or_false] at hx
    rcases hx with rfl | rfl | rfl | rfl | rfl
    · rw [depth_str]; omega
    · rw [depth_str]; omega
    · rw [PyData.depth, h2]; omega
    · rw [depth_str]; omega
    · exact h1
  omega
theorem depth_encs (P : List Sp) : PyData.depthAll (P.map enc) ≤ 3 := depthAll_le fun x hx => by
  obtain ⟨s, _, rfl⟩ := List.mem_map.mp hx
  exact depth_enc s
theorem any_encs (s : Sp) : ∀ ys : List Sp, ((ys.map enc).any fun y => PyData.eqv y (enc s)) = decide (s ∈ ys)
  | [] => rfl
  | y :: ys => by
    rw [List.map_cons, List.any_cons, any_encs s ys, eqv_enc]
    by_cases h : y = s
    · subst h; simp
    · have h' : ¬ s = y := fun e => h e.symm
      simp [h, h']
theorem in_encT (s : Sp) (ys : List Sp) : inD (enc s) (.tuple (ys.map enc)) = some (decide (s ∈ ys)) := by
  show inAll _ _ = _
  unfold inAll
  rw [if_pos (by have := depth_enc s; omega), any_encs]
theorem in_encL (s : Sp) (ys : List Sp) : inD (enc s) (.list (ys.map enc)) = some (decide (s ∈ ys)) := by
  show inAll _ _ = _
  unfold inAll
  rw [if_pos (by have := depth_enc s; omega), any_encs]
/-! deep copies -/
mutual
def tupD : PyData → PyData
  | .list xs => .tuple (tupDs xs)
  | .tuple xs => .tuple (tupDs xs)
  | x => x
def tupDs : List PyData → List PyData
  | [] => []
  | x :: r => tupD x :: tupDs r
end
mutual
def lisD : PyData → PyData
  | .list xs => .list (lisDs xs)
  | .tuple xs => .list (lisDs xs)
  | x => x
def lisDs : List PyData → List PyData
  | [] => []
  | x :: r => lisD x :: lisDs r
end
theorem tupDs_eq : ∀ xs, tupDs xs = xs.map tupD
  | [] => by simp [tupDs]
  | x :: r => by rw [tupDs, tupDs_eq r]; rfl
theorem lisDs_eq : ∀ xs, lisDs xs = xs.map lisD
  | [] => by simp [lisDs]
  | x :: r => by rw [lisDs, lisDs_eq r]; rfl
theorem sp_tupled (wf : Nat) : ∀ (n : Nat) (x : PyData) (m : Mem), x.depth < n → run T wf n 2 [.d x] m = .ok (.d (tupD x)) m
  | 0, _, _, h => by omega
  | n + 1, x, m, h => by
    rw [run_succ d_tupled.fnT rfl rfl (by decide)]
    cases x with
    | list xs =>
      rw [PyData.depth] at h
      simp [d_tupled, Df.fnT, b_tupled, isi]
      rw [lcLoop_map tupD rfl]
      · simp [tupD, tupDs_eq]
      · intro y hy
        have := depth_le hy
        simp [sp_tupled wf n y m (by omega)]
    | tuple xs =>
      rw [PyData.depth] at h
      simp [d_tupled, Df.fnT, b_tupled, isi]
      rw [lcLoop_map tupD rfl]
      · simp [tupD, tupDs_eq]
      · intro y hy
        have := depth_le hy
        simp [sp_tupled wf n y m (by omega)]
    | _ => simp [d_tupled, Df.fnT, b_tupled, isi, tupD]
def lisV : PyData → Val
  | .list xs => .fr (lisDs xs)
  | .tuple xs => .fr (lisDs xs)
  | x => .d x
theorem lisV_frz (x : PyData) (m : Mem) : frz (lisV x) m = .ok (lisD x) m := by
  cases x <;> simp [lisV, lisD]
theorem sp_lists (wf : Nat) : ∀ (n : Nat) (x : PyData) (m : Mem), x.depth < n → run T wf n 26 [.d x] m = .ok (lisV x) m
  | 0, _, _, h => by omega
  | n + 1, x, m, h => by
    rw [run_succ d__law_lists.fnT rfl rfl (by decide)]
    cases x with
    | list xs =>
      rw [PyData.depth] at h
      simp [d__law_lists, Df.fnT, b__law_lists, isi]
      rw [lcLoop_map lisD rfl]
      · simp [lisV, lisDs_eq]
      · intro y hy
        have := depth_le hy
        simp [sp_lists wf n y m (by omega), lisV_frz]
    | tuple xs =>
      rw [PyData.depth] at h
      simp [d__law_lists, Df.fnT, b__law_lists, isi]
      rw [lcLoop_map lisD rfl]
      · simp [lisV, lisDs_eq]
      · intro y hy
        have := depth_le hy
        simp [sp_lists wf n y m (by omega), lisV_frz]
    | _ => simp [d__law_lists, Df.fnT, b__law_lists, isi, lisV]
theorem tup_strs (V : List Str) : (V.map PyData.str).map tupD = V.map PyData.str := by
  rw [List.map_map]
  exact List.map_congr_left fun s _ => by simp [tupD]
theorem tup_encC (cd : List (Str × Int)) : tupD (encC cd) = encC cd := by
  simp only [encC, tupD, tupDs_eq, List.map_map]
  congr 1
theorem tup_enc (s : Sp) : tupD (enc s) = enc s := by
  simp only [enc, tupD, tupDs, tupDs_eq, tup_strs, tup_encC]
theorem tup_encs (P : List Sp) : (P.map enc).map tupD = P.map enc := by
  rw [List.map_map]
  exact List.map_congr_left fun s _ => tup_enc s
/-- what is read as a plan -/
structure Rd (x : PyData) (P : List Sp) : Prop where
  tup : tupD x = encP P
  dep : x.depth ≤ 4
theorem rdT (P : List Sp) : Rd (encP P) P := ⟨by simp only [encP, tupD, tupDs_eq, tup_encs], by
  unfold encP
  rw [PyData.depth]
  have := depth_encs P
  omega⟩
theorem rdL (P : List Sp) : Rd (.list (P.map enc)) P := ⟨by simp only [encP, tupD, tupDs_eq, tup_encs], by
  rw [PyData.depth]
  have := depth_encs P
  omega⟩
mutual
theorem tup_lis : ∀ x, tupD (lisD x) = tupD x
  | .list xs => by simp [tupD, lisD, tup_liss xs]
  | .tuple xs => by simp [tupD, lisD, tup_liss xs]
  | .none => by simp [tupD, lisD]
  | .bool _ => by simp [tupD, lisD]
  | .int _ => by simp [tupD, lisD]
  | .str _ => by simp [tupD, lisD]
  | .dict _ => by simp [tupD, lisD]
theorem tup_liss : ∀ xs, tupDs (lisDs xs) = tupDs xs
  | [] => by simp [tupDs, lisDs]
  | x :: r => by simp [tupDs, lisDs, tup_lis x, tup_liss r]
end
mutual
theorem dep_lis : ∀ x, (lisD x).depth = x.depth
  | .list xs => by simp [PyData.depth, lisD, dep_liss xs]
  | .tuple xs => by simp [PyData.depth, lisD, dep_liss xs]
  | .none => by simp [lisD]
  | .bool _ => by simp [lisD]
  | .int _ => by simp [lisD]
  | .str _ => by simp [lisD]
  | .dict _ => by simp [lisD]
theorem dep_liss : ∀ xs, PyData.depthAll (lisDs xs) = PyData.depthAll xs
  | [] => by simp [lisDs]
  | x :: r => by simp [PyData.depthAll, lisDs, dep_lis x, dep_liss r]
end
theorem rdS (P : List Sp) : Rd (lisD (encP P)) P := ⟨by rw [tup_lis, (rdT P).tup], by rw [dep_lis]; exact (rdT P).dep⟩
theorem Rd.run {x : PyData} {P : List Sp} (h : Rd x P) (wf n : Nat) (hn : 5 ≤ n) (m : Mem) : run T wf n 2 [.d x] m = .ok (.d (encP P)) m := by
  rw [sp_tupled wf n x m (by have := h.dep; omega), h.tup]
end Ra.K3

set_option Elab.async false
set_option linter.all false
set_option maxRecDepth 100000
set_option maxHeartbeats 400000
namespace Ra.K3
open PySem M _root_.K1
theorem anyD_map {α : Type} (f : α → Bool) (xs : List α) : anyD [.list (xs.map fun x => PyData.bool (f x))] = some (.d (.bool (xs.any f))) := by
  show (bools (xs.map fun x => PyData.bool (f x))).map _ = _
  rw [bools_map, Option.map_some, List.any_map]; rfl
@[simp] theorem bi_any (x : List PyData) : bi .any x = anyD x := rfl
@[simp] theorem bi_sorted (x : List PyData) : bi .sorted x = sortedD x := rfl
@[simp] theorem walk_encV (V : List Str) : walk .seq [encV V] = some (V.map PyData.str) := rfl
@[simp] theorem walk_encP (V : List Sp) : walk .seq [encP V] = some (V.map enc) := rfl
@[simp] theorem walk_encC (cd : List (Str × Int)) : walk .seq [encC cd] = some (cd.map fun p => .tuple [.str p.1, .int p.2]) := rfl
/-- a loop that carries a state -/
theorem forLoop_st {α σ : Type} {t : Tg} {body : EX} {gs : List Nat} {m : Mem} (e : α → PyData) (st : Nat → σ → Env → Prop) (f : σ → α → σ) (hg : same gs m m = true) : ∀ {xs : List α} {s : σ} {env : Env} (n0 : Nat),
    (∀ i x, xs[i]? = some x → ∀ s env, st (n0 + i) s env → ∃ env1 env2, asg t (e x) env = some env1 ∧ body env1 m = .ok (.next env2) m ∧ st (n0 + i + 1) (f s x) env2) → st n0 s env →
    ∃ env', forLoop t body gs (xs.map e) env m = .ok (.next env') m ∧ st (n0 + xs.length) (xs.foldl f s) env'
  | [], s, env, n0, _, h0 => ⟨env, rfl, h0⟩
  | x :: xs, s, env, n0, h, h0 => by
    obtain ⟨env1, env2, a1, a2, a3⟩ := h 0 x rfl s env (by simpa using h0)
    obtain ⟨env', b1, b2⟩ := forLoop_st (t := t) (body := body) (gs := gs) e st f hg (xs := xs) (s := f s x) (env := env2) (n0 + 1) (fun i y hy s env hs => by
      obtain ⟨c1, c2, d1, d2, d3⟩ := h (i + 1) y (by simpa using hy) s env (by rw [show n0 + (i + 1) = n0 + 1 + i by omega]; exact hs)
      exact ⟨c1, c2, d1, d2, by rw [show n0 + 1 + i + 1 = n0 + (i + 1) + 1 by omega]; exact d3⟩) (by simpa using a3)
    refine ⟨env', ?_, by rw [List.length_cons, show n0 + (xs.length + 1) = n0 + 1 + xs.length by omega]; exact b2⟩
    rw [List.map_cons]
    unfold forLoop
    rw [a1]
    simp only [a2, Res.bind_ok, hg, if_true]
    exact b1
/-! sorted rows of texts -/
theorem alike_strs (L : List Str) : allAlike (L.map PyData.str) = true := by
  unfold allAlike
  simp [PySem.W.alike]
theorem sortable_strs (L : List Str) : sortable (L.map PyData.str) = true := by
  unfold sortable
  simp [isPlainC]
theorem allStr_strs : ∀ L : List Str, allStr (L.map PyData.str) = true
  | [] => rfl
  | _ :: L => allStr_strs L
theorem sortD_strs (L : List Str) : sortD (L.map PyData.str) = some ((srt L).map PyData.str) := by
  unfold sortD
  simp [alike_strs, sortable_strs, depth_strs, (srt_eq L).1]
theorem dedup_firstS (ks : List Str) : dedup [] (ks.map PyData.str) = (firstS [] ks).map PyData.str := by
  have e := dedup_strs ks []
  simpa using e
theorem sset_L (ks : List Str) (h : ks.length < 4000) : bi .sortedset [.list (ks.map PyData.str)] = some (.fr ((setS ks).map PyData.str)) := by
  rw [show ∀ z, bi .sortedset z = sortedsetD z from fun _ => rfl]
  unfold sortedsetD
  simp only
  rw [if_pos ⟨allStr_strs ks, by simpa using h⟩, dedup_firstS, sortD_strs]
  rfl
theorem sset_T (ks : List Str) (h : ks.length < 4000) : bi .sortedset [.tuple (ks.map PyData.str)] = some (.fr ((setS ks).map PyData.str)) := by
  rw [show ∀ z, bi .sortedset z = sortedsetD z from fun _ => rfl]
  unfold sortedsetD
  simp only
  rw [if_pos ⟨allStr_strs ks, by simpa using h⟩, dedup_firstS, sortD_strs]
  rfl
theorem sp_setL (wf n : Nat) (hn : 1 ≤ n) (ks : List Str) (h : ks.length < 4000) (m : Mem) : run T wf n 4 [.d (.list (ks.map PyData.str))] m = .ok (.d (encV (setS ks))) m := by
  obtain ⟨n, rfl⟩ : ∃ k, n = k + 1 := ⟨n - 1, by omega⟩
  rw [run_succ d_set_of.fnT rfl rfl (by decide)]
  simp [d_set_of, Df.fnT, b_set_of, sset_L ks h, encV]
theorem sp_setT (wf n : Nat) (hn : 1 ≤ n) (ks : List Str) (h : ks.length < 4000) (m : Mem) : run T wf n 4 [.d (.tuple (ks.map PyData.str))] m = .ok (.d (encV (setS ks))) m := by
  obtain ⟨n, rfl⟩ : ∃ k, n = k + 1 := ⟨n - 1, by omega⟩
  rw [run_succ d_set_of.fnT rfl rfl (by decide)]
  simp [d_set_of, Df.fnT, b_set_of, sset_T ks h, encV]
/-! a plan that is small -/
def FL : List Str := ["fa", "fb", "fc"]
structure WQ (P : List Sp) : Prop extends WP P where
  len : P.length ≤ 8
  cl : ∀ s ∈ P, s.cd.length ≤ 8
  fl : ∀ s ∈ P, ∀ p ∈ s.cd, p.1 ∈ FL
theorem WQ.sub {P L : List Sp} (h : WQ P) (hs : L.Sublist P) : WQ L where
  ris := ris_pair.mpr ((ris_pair.mp h.ris).sublist (hs.map _))
  ok := fun s hm => h.ok s (hs.subset hm)
  len := Nat.le_trans hs.length_le h.len
  cl := fun s hm => h.cl s (hs.subset hm)
  fl := fun s hm => h.fl s (hs.subset hm)
theorem flat_len {α β : Type} (f : α → List β) (c : Nat) : ∀ {l : List α}, (∀ x ∈ l, (f x).length ≤ c) → (l.flatMap f).length ≤ c * l.length
  | [], _ => by simp
  | x :: l, h => by
    rw [List.flatMap_cons, List.length_append, List.length_cons, Nat.mul_succ]
    have := flat_len f c (l := l) fun y hy => h y (List.mem_cons_of_mem _ hy)
    have := h x List.mem_cons_self
    omega
theorem WQ.flags_len {P : List Sp} (h : WQ P) : (flagsL P).length ≤ 64 := by
  have := flat_len (fun s : Sp => s.cd.map (·.1)) 8 (l := P) fun s hs => by rw [List.length_map]; exact h.cl s hs
  have := h.len
  show (P.flatMap _).length ≤ 64
  omega
theorem WQ.meet_len {P : List Sp} (h : WQ P) {L : List Sp} (hl : L.length ≤ 8) (hs : ∀ s ∈ L, s ∈ P) : (meetF L).length ≤ 64 := by
  have := flat_len (fun s : Sp => (s.cd.filter fun p => p.2 == 1).map (·.1)) 8 (l := L) fun s hm => by
    rw [List.length_map]
    exact Nat.le_trans (List.length_filter_le _ _) (h.cl s (hs s hm))
  show (L.flatMap _).length ≤ 64
  omega
theorem WQ.flags3 {P : List Sp} (h : WQ P) : (flagsS P).length ≤ 3 := by
  refine nodup_len (l' := FL) (ris_nodup (ris_setS _)) fun f hf => ?_
  obtain ⟨s, hs, a, hm⟩ := mem_flags.mp hf
  exact h.fl s hs _ hm
/-! conditions -/
theorem sp_holds (wf n : Nat) (hn : 1 ≤ n) (cd : List (Str × Int)) (V : List Str) (m : Mem) : run T wf n 8 [.d (encC cd), .d (encV V)] m = .ok (.d (.bool (holdB cd V))) m := by
  obtain ⟨n, rfl⟩ : ∃ k, n = k + 1 := ⟨n - 1, by omega⟩
  rw [run_succ d_holds.fnT rfl rfl (by decide)]
  simp [d_holds, Df.fnT, b_holds, encC, encV]
  rw [lcLoop_ofm _ (fun p => .bool (decide (p.1 ∈ V) == (p.2 == 1))) rfl]
  · simp [allB_eq, holdB]
  · intro p hp
    simp [cmp_eqB]
theorem sp_running {x : PyData} {P : List Sp} (hx : Rd x P) (wf n : Nat) (hn : 6 ≤ n) (V : List Str) (m : Mem) : run T wf n 9 [.d x, .d (encV V)] m = .ok (.d (encP (live V P))) m := by
  obtain ⟨n, rfl⟩ : ∃ k, n = k + 1 := ⟨n - 1, by omega⟩
  rw [run_succ d_running.fnT rfl rfl (by decide)]
  simp [d_running, Df.fnT, b_running, hx.run wf n (by omega)]
  rw [lcLoop_of enc (fun s => holdB s.cd V) enc rfl]
  · simp [live, encP]
  · intro s hs
    simp [e4, sp_holds wf n (by omega)]
theorem sp_flags {x : PyData} {P : List Sp} (hx : Rd x P) (hP : WQ P) (wf n : Nat) (hn : 6 ≤ n) (m : Mem) : run T wf n 11 [.d x] m = .ok (.d (encV (flagsS P))) m := by
  obtain ⟨n, rfl⟩ : ∃ k, n = k + 1 := ⟨n - 1, by omega⟩
  have hfl := hP.flags_len
  rw [run_succ d_flags_in.fnT rfl rfl (by decide)]
  simp [d_flags_in, Df.fnT, b_flags_in, hx.run wf n (by omega)]
  rw [lc2Loop_of enc (fun s => (s.cd.map (·.1)).map PyData.str) rfl lim (fun _ => rfl) (by
    have : (P.flatMap fun s => (s.cd.map (·.1)).map PyData.str) = (flagsL P).map PyData.str := by
      unfold flagsL; rw [List.map_flatMap]
    rw [this, List.length_map]
    simp [lim]; omega)]
  · have : (P.flatMap fun s => (s.cd.map (·.1)).map PyData.str) = (flagsL P).map PyData.str := by
      unfold flagsL; rw [List.map_flatMap]
    rw [this]
    simp [sp_setL wf n (by omega) (flagsL P) (by omega), flagsS]
  · intro s hs
    refine ⟨[some (.d x), some (.d (enc s)), none, none], by simp, fun k hk => ?_⟩
    have hk' : k + s.cd.length ≤ lim := by simpa using hk
    simp [lcIn, e4, encC]
    rw [if_pos hk', lcLoop_ofm _ (fun p => .str p.1) rfl]
    · simp
    · intro p hp
      simp
/-! variants -/
theorem subsF_fold : ∀ (fl : List Str) (found : List (List Str)), subsF found fl = fl.foldl (fun s f => s ++ s.map (· ++ [f])) found
  | [], _ => rfl
  | f :: r, found => by rw [subsF, subsF_fold r]; rfl
theorem subsF_len : ∀ (fl : List Str) (found : List (List Str)), (subsF found fl).length = found.length * 2 ^ fl.length
  | [], found => by simp [subsF]
  | f :: r, found => by
    rw [subsF, subsF_len r, List.length_append, List.length_map, List.length_cons, Nat.pow_succ]
    rw [← Nat.two_mul, Nat.mul_comm (2 : Nat), Nat.mul_assoc, Nat.mul_comm (2 : Nat)]
theorem subsF_head : ∀ (fl : List Str) (r : List (List Str)), ∃ r', subsF ([] :: r) fl = [] :: r'
  | [], r => ⟨r, rfl⟩
  | f :: fl, r => by
    rw [subsF, List.cons_append]
    exact subsF_head fl _
theorem alikeAll_strs : ∀ xs ys : List Str, PySem.W.alikeAll (xs.map PyData.str) (ys.map PyData.str) = true
  | [], _ => by simp [PySem.W.alikeAll]
  | _ :: _, [] => by simp [PySem.W.alikeAll]
  | x :: xs, y :: ys => by
    rw [List.map_cons, List.map_cons, PySem.W.alikeAll, alikeAll_strs xs ys]
    simp [PySem.W.alike]
def decV : PyData → List Str
  | .tuple xs => xs.map strOf
  | _ => []
theorem dec_enc (V : List Str) : decV (encV V) = V := by
  simp only [encV, decV, List.map_map]
  have e : (strOf ∘ PyData.str) = id := rfl
  rw [e, List.map_id]
def vsOf (fl : List Str) : List (List Str) := (isort [] ((subs fl).map encV)).map decV
theorem vsOf_eq (fl : List Str) : isort [] ((subs fl).map encV) = (vsOf fl).map encV ∧ (vsOf fl).Perm (subs fl) := by
  have hp := isort_perm ((subs fl).map encV) []
  rw [List.nil_append] at hp
  constructor
  · unfold vsOf
    rw [List.map_map]
    exact ((List.map_congr_left (f := encV ∘ decV) (g := id) fun x hx => by
      obtain ⟨V, _, rfl⟩ := List.mem_map.mp (hp.mem_iff.mp hx)
      simp [dec_enc]).trans (List.map_id _)).symm
  · have q := hp.map decV
    rw [List.map_map] at q
    have e : (decV ∘ encV) = id := funext dec_enc
    rw [e, List.map_id] at q
    exact q
theorem mem_vsOf {fl v : List Str} : v ∈ vsOf fl ↔ v.Sublist fl := by
  rw [(vsOf_eq fl).2.mem_iff, mem_subs]
theorem sort_subs (fl : List Str) : sortD ((subs fl).map encV) = some ((vsOf fl).map encV) := by
  unfold sortD
  have h1 : allAlike ((subs fl).map encV) = true := by
    unfold allAlike
    rw [List.all_eq_true]
    intro x hx
    rw [List.all_eq_true]
    intro y hy
    obtain ⟨a, _, rfl⟩ := List.mem_map.mp hx
    obtain ⟨b, _, rfl⟩ := List.mem_map.mp hy
    simp [encV, PySem.W.alike, alikeAll_strs]
  have h2 : sortable ((subs fl).map encV) = true := by
    unfold sortable
    obtain ⟨r, hr⟩ := subsF_head fl []
    have : tup0 ((subs fl).map encV) = true := by
      unfold subs
      rw [hr]
      show (r.map encV).all isTup = true
      rw [List.all_eq_true]
      intro x hx
      obtain ⟨a, _, rfl⟩ := List.mem_map.mp hx
      rfl
    simp [this]
  have h3 : PyData.depthAll ((subs fl).map encV) ≤ 64 := depthAll_le fun x hx => by
    obtain ⟨a, _, rfl⟩ := List.mem_map.mp hx
    simp [encV, PyData.depth, depth_strs]
  rw [if_pos (by rw [h1, h2, decide_eq_true h3]; rfl), (vsOf_eq fl).1]
theorem addL (xs ys : List PyData) (h : xs.length + ys.length ≤ 1000000) : bop .add (.list xs) (.list ys) = some (.fr (xs ++ ys)) := by
  show (if xs.length + ys.length ≤ lim then _ else _) = _
  rw [if_pos (by simp [lim]; omega)]
theorem sp_variants {x : PyData} {P : List Sp} (hx : Rd x P) (hP : WQ P) (wf n : Nat) (hn : 7 ≤ n) (m : Mem) : run T wf n 14 [.d x] m = .ok (.fr ((vsOf (flagsS P)).map encV)) m := by
  obtain ⟨n, rfl⟩ : ∃ k, n = k + 1 := ⟨n - 1, by omega⟩
  have h3 := hP.flags3
  rw [run_succ d_variants_of.fnT rfl rfl (by decide)]
  obtain ⟨env', h1, e2, e3, h2⟩ := forLoop_st (t := .nm 2) (gs := []) (m := m) (body := exB (run T wf n) wf [(.set 1 false (.op .add (.var 1) (.lc [3] (.nm 3) .seq [(.var 1)] [] (.tupS [true, false] [(.var 3), (.var 2)]))))]) PyData.str
    (fun i (s : List (List Str)) env => ∃ e2 e3, env = [some (.d x), some (.d (.list (s.map encV))), e2, e3] ∧ s.length = 2 ^ i ∧ ∀ v ∈ s, v.length ≤ i) (fun s f => s ++ s.map (· ++ [f])) rfl (xs := flagsS P) (s := [[]]) (env := [some (.d x), some (.d (.list [.tuple []])), none, none]) 0 (by
      rintro i f hf s env ⟨e2, e3, rfl, hl, hv⟩
      have hi : i < 3 := by
        have := (List.getElem?_eq_some_iff.mp hf).1
        omega
      rw [Nat.zero_add] at hl hv
      have hp : 2 ^ i ≤ 8 := by
        have : i = 0 ∨ i = 1 ∨ i = 2 := by omega
        rcases this with rfl | rfl | rfl <;> decide
      refine ⟨[some (.d x), some (.d (.list (s.map encV))), some (.d (.str f)), e3], [some (.d x), some (.d (.list ((s ++ s.map (· ++ [f])).map encV))), some (.d (.str f)), e3], by simp, ?_, _, _, rfl, ?_, ?_⟩
      · simp
        rw [lcLoop_ofm encV (fun v => encV (v ++ [f])) rfl]
        · simp
          rw [addL _ _ (by simp; omega)]
          simp [Function.comp_def]
        · intro v hv'
          have := hv v hv'
          have hll : v.length + 1 ≤ lim := by simp [lim]; omega
          simp [encV, hll]
      · rw [Nat.zero_add, List.length_append, List.length_map, hl, Nat.pow_succ]
        omega
      · intro v hv'
        rcases List.mem_append.mp hv' with q | q
        · have := hv v q
          omega
        · obtain ⟨u, hu, rfl⟩ := List.mem_map.mp q
          have := hv u hu
          rw [List.length_append, List.length_singleton]
          omega) ⟨none, none, rfl, rfl, by simp⟩
  obtain ⟨rfl, hl, hv⟩ := h2
  rw [← subsF_fold] at h1
  have hs := sort_subs (flagsS P)
  unfold subs at hs
  simp [d_variants_of, Df.fnT, b_variants_of, sp_flags hx hP wf n (by omega)]
  rw [h1]
  simp [sortedD, hs]
end Ra.K3

set_option Elab.async false
set_option linter.all false
set_option maxRecDepth 100000
set_option maxHeartbeats 800000
namespace Ra.K3
open PySem M _root_.K1
theorem all_true {α : Type} (xs : List α) : allD [.list (xs.map fun _ => PyData.bool true)] = some (.d (.bool true)) := by
  rw [allD_map (fun _ => true)]
  simp [allB_eq]
@[simp] theorem x_tryx (call : Call) (wf : Nat) (b : TB) (h : List Hd) (env : Env) (m : Mem) : exS call wf (.tryx b h) env m = xTry (tbX call b) h env m := rfl
/-! same -/
mutual
def ndB : PyData → Bool
  | .list xs => ndBs xs
  | .tuple xs => ndBs xs
  | .dict _ => false
  | _ => true
def ndBs : List PyData → Bool
  | [] => true
  | x :: r => ndB x && ndBs r
end
theorem ndBs_mem : ∀ {xs : List PyData}, ndBs xs = true → ∀ x ∈ xs, ndB x = true
  | [], _, x, h => by cases h
  | y :: r, h, x, hx => by
    rw [ndBs, Bool.and_eq_true] at h
    rcases List.mem_cons.mp hx with rfl | hx
    · exact h.1
    · exact ndBs_mem h.2 x hx
theorem zip_self : ∀ xs : List PyData, zipD xs xs = xs.map fun x => .tuple [x, x]
  | [] => rfl
  | x :: xs => by rw [zipD, zip_self xs]; rfl
theorem sp_same (wf : Nat) : ∀ (n : Nat) (x : PyData) (m : Mem), x.depth < n → ndB x = true → run T wf n 27 [.d x, .d x] m = .ok (.d (.bool true)) m
  | 0, _, _, h, _ => by omega
  | n + 1, x, m, h, hd => by
    rw [run_succ d__law_same.fnT rfl rfl (by decide)]
    cases x with
    | list xs =>
      rw [PyData.depth] at h
      rw [ndB] at hd
      simp [d__law_same, Df.fnT, b__law_same, isi, cmp_neB, zip_self]
      rw [lcLoop_ofm (fun x => PyData.tuple [x, x]) (fun _ => .bool true) rfl]
      · have hA := all_true xs
        simp only [Res.bind_ok, M.nf_fr, M.lookAll_d, M.lookAll_nil, Option.map_some, optR_some, hA]
        simp
      · intro y hy
        have := depth_le hy
        simp [sp_same wf n y m (by omega) (ndBs_mem hd y hy)]
    | tuple xs =>
      rw [PyData.depth] at h
      rw [ndB] at hd
      simp [d__law_same, Df.fnT, b__law_same, isi, cmp_neB, zip_self]
      rw [lcLoop_ofm (fun x => PyData.tuple [x, x]) (fun _ => .bool true) rfl]
      · have hA := all_true xs
        simp only [Res.bind_ok, M.nf_fr, M.lookAll_d, M.lookAll_nil, Option.map_some, optR_some, hA]
        simp
      · intro y hy
        have := depth_le hy
        simp [sp_same wf n y m (by omega) (ndBs_mem hd y hy)]
    | none =>
      have hc : cmp .eq .none .none = some true := by decide
      simp [d__law_same, Df.fnT, b__law_same, isi, isNone, cmp_eqB, hc]
    | bool b => simp [d__law_same, Df.fnT, b__law_same, isi, isNone, cmp_eqB]
    | int i => simp [d__law_same, Df.fnT, b__law_same, isi, isNone]
    | str s => simp [d__law_same, Df.fnT, b__law_same, isi, isNone, cmp_eqB, cmp_eqS]
    | dict d => simp [ndB] at hd
theorem idxL0 (a : PyData) (r : List PyData) : idx (.list (a :: r)) (.int 0) = some a := by simp [idx, L2.atI, L2.ixN]
theorem idxL1 (a b : PyData) (r : List PyData) : idx (.list (a :: b :: r)) (.int 1) = some b := by
  have : (1 : Int) < r.length + 1 + 1 := by omega
  simp [idx, L2.atI, L2.ixN, this]
theorem at_new (m : Mem) (c : Cell) (r : List Cell) : (m ++ c :: r)[m.length]? = some c := by simp
theorem set_new (m : Mem) (c c' : Cell) : (m ++ [c]).set m.length c' = m ++ [c'] := by simp
end Ra.K3

set_option Elab.async false
set_option linter.all false
set_option maxRecDepth 100000
set_option maxHeartbeats 800000
namespace Ra.K3
open PySem M _root_.K1
/-- the box of draws -/
def box (a b c : Int) : Cell := ⟨false, [.int a, .int b, .int c]⟩
def Bx (k N : Nat) (m : Mem) : Prop := ∃ a b c : Int, m[k]? = some (box a b c) ∧ 0 ≤ a ∧ 0 ≤ b ∧ b < 4611686018427387904 ∧ 0 ≤ c ∧ c ≤ N
/-- but for the box all cells are as they were -/
def Up (k : Nat) (m m' : Mem) : Prop := m'.length = m.length ∧ ∀ j, j ≠ k → m'[j]? = m[j]?
theorem Up.refl (k : Nat) (m : Mem) : Up k m m := ⟨rfl, fun _ _ => rfl⟩
theorem Up.trans {k : Nat} {m m' m'' : Mem} (a : Up k m m') (b : Up k m' m'') : Up k m m'' := ⟨b.1.trans a.1, fun j h => (b.2 j h).trans (a.2 j h)⟩
theorem Up.set (k : Nat) (m : Mem) (c : Cell) : Up k m (m.set k c) := ⟨List.length_set, fun j h => by rw [List.getElem?_set_ne (fun e => h e.symm)]⟩
theorem Bx.mono {k N N' : Nat} {m : Mem} (h : Bx k N m) (l : N ≤ N') : Bx k N' m := by
  obtain ⟨a, b, c, h1, h2, h3, h4, h5, h6⟩ := h
  exact ⟨a, b, c, h1, h2, h3, h4, h5, by omega⟩
theorem Bx.lt {k N : Nat} {m : Mem} (h : Bx k N m) : k < m.length := by
  obtain ⟨a, b, c, h1, _⟩ := h
  exact (List.getElem?_eq_some_iff.mp h1).1
theorem bx_set {k N : Nat} {m : Mem} {a b c : Int} (hk : k < m.length) (h2 : 0 ≤ a) (h3 : 0 ≤ b) (h4 : b < 4611686018427387904) (h5 : 0 ≤ c) (h6 : c ≤ N) : Bx k N (m.set k (box a b c)) :=
  ⟨a, b, c, List.getElem?_set_self hk, h2, h3, h4, h5, h6⟩
@[simp] theorem addI (i j : Int) : bop .add (.int i) (.int j) = some (.d (.int (i + j))) := rfl
@[simp] theorem subI (i j : Int) : bop .sub (.int i) (.int j) = some (.d (.int (i - j))) := rfl
theorem mulI {i j : Int} (h : small64 i = true ∨ small64 j = true) : bop .mul (.int i) (.int j) = some (.d (.int (i * j))) := by
  show (if (small64 i || small64 j) = true then _ else _) = _
  rw [if_pos (by rw [Bool.or_eq_true]; exact h)]
theorem modI {i j : Int} (h : j ≠ 0) : bop .mod (.int i) (.int j) = some (.d (.int (i.fmod j))) := by
  show (if j ≠ 0 then _ else _) = _
  rw [if_pos h]
theorem divI {i j : Int} (h : j ≠ 0 ∧ j.natAbs < 1073741824) : bop .fdiv (.int i) (.int j) = some (.d (.int (i.fdiv j))) := by
  show (if j ≠ 0 ∧ j.natAbs < 1073741824 then _ else _) = _
  rw [if_pos h]
theorem sm {i : Int} (h1 : -18446744073709551616 < i) (h2 : i < 18446744073709551616) : small64 i = true := by
  simp [small64, h1, h2]
theorem rdR_set {m : Mem} {k : Nat} {c : Cell} (hk : k < m.length) : rdR (m.set k c) (.mr k) = .ok (.list c.xs) (m.set k c) := rdR_mr _ (List.getElem?_set_self hk)
theorem idxL2 (a b c : PyData) (r : List PyData) : idx (.list (a :: b :: c :: r)) (.int 2) = some c := by
  have : (2 : Int) < r.length + 1 + 1 + 1 := by omega
  simp [idx, L2.atI, L2.ixN, this]
theorem fm {i j : Int} (h : 0 < j) : 0 ≤ i.fmod j ∧ i.fmod j < j := ⟨Int.fmod_nonneg_of_pos _ h, Int.fmod_lt_of_pos _ h⟩
theorem take_set (m : Mem) (k : Nat) (c : Cell) : (m.set k c).take m.length = m.set k c := List.take_of_length_le (by simp)
theorem sp_take (wf n k N : Nat) (m : Mem) (top : Int) (hB : Bx k N m) (hN : N < 1000000000000000) (h1 : 0 < top) (h2 : top < 1073741824) :
    ∃ (r : Int) (m' : Mem), run T wf (n + 1) 22 [.mr k, .d (.int top)] m = .ok (.d (.int r)) m' ∧ 0 ≤ r ∧ r < top ∧ Bx k (N + 1) m' ∧ Up k m m' := by
  obtain ⟨a, b, c, hm, ha, hb, hb2, hc, hc2⟩ := hB
  have hk : k < m.length := (List.getElem?_eq_some_iff.mp hm).1
  have hne : top ≠ 0 := by omega
  have hna : top ≠ 0 ∧ top.natAbs < 1073741824 := ⟨hne, by omega⟩
  rw [run_succ d__law_take.fnT rfl rfl (by decide)]
  have e0 : rdR m (.mr k) = .ok (.list [.int a, .int b, .int c]) m := rdR_mr m hm
  by_cases h0 : 0 < a
  · refine ⟨a.fmod top, m.set k (box (a.fdiv top) b c), ?_, (fm h1).1, (fm h1).2, bx_set hk ?_ hb hb2 hc (by omega), Up.set _ _ _⟩
    · simp [d__law_take, Df.fnT, b__law_take, e0, idxL0, h0, modI hne, divI hna]
      rw [upCell_mr (j := k) (h := by simp) (hm := hm) (ys := [.int (a.fdiv top), .int b, .int c]) (hf := by simp [putD, L2.ixN])]
      simp [box, take_set]
    · exact Int.fdiv_nonneg ha (by omega)
  · have ea : a = 0 := by omega
    subst ea
    obtain ⟨once, ho⟩ : ∃ z : Int, z = ((b + 48271 * (c + 1)) * (39373 + (c + 1))).fmod 2147483647 := ⟨_, rfl⟩
    obtain ⟨twice, ht⟩ : ∃ z : Int, z = ((once + (c + 1) + b.fdiv 1000003) * (once.fmod 40009 + 7)).fmod 2147483629 := ⟨_, rfl⟩
    refine ⟨(((twice * 48271 + once).fmod 2147483587).fdiv 64).fmod top, m.set k (box 0 b (c + 1)), ?_, (fm h1).1, (fm h1).2, bx_set hk (by omega) hb hb2 (by omega) (by omega), Up.set _ _ _⟩
    simp [d__law_take, Df.fnT, b__law_take, e0, idxL0, idxL2]
    rw [upCell_mr (j := k) (h := by simp) (hm := hm) (ys := [.int 0, .int b, .int (c + 1)]) (hf := by simp [putD, L2.ixN])]
    have e1 : rdR (m.set k ⟨false, [.int 0, .int b, .int (c + 1)]⟩) (.mr k) = .ok (.list [.int 0, .int b, .int (c + 1)]) (m.set k ⟨false, [.int 0, .int b, .int (c + 1)]⟩) := rdR_set hk
    simp [e1, idxL1, idxL2]
    rw [mulI (.inl (by decide))]
    simp [e1, idxL1, idxL2]
    rw [mulI (.inr (sm (by omega) (by omega)))]
    simp
    rw [modI (by decide), ← ho]
    simp
    rw [modI (by decide)]
    simp [e1, idxL1, idxL2]
    rw [divI ⟨by decide, by decide⟩]
    simp
    rw [mulI (.inr (by
      have := fm (i := once) (j := 40009) (by decide)
      exact sm (by omega) (by omega)))]
    simp
    rw [modI (by decide), ← ht]
    simp
    rw [mulI (.inr (by decide))]
    simp
    rw [modI (by decide)]
    simp
    rw [divI ⟨by decide, by decide⟩]
    simp [modI hne, box, take_set]
theorem atI_in {α : Type} {xs : List α} {r : Int} (h0 : 0 ≤ r) (h1 : r < xs.length) : ∃ y, L2.atI xs r = some y ∧ xs[r.toNat]? = some y ∧ y ∈ xs := by
  have hlt : r.toNat < xs.length := by omega
  refine ⟨xs[r.toNat], ?_, List.getElem?_eq_getElem hlt, List.getElem_mem hlt⟩
  unfold L2.atI L2.ixN
  simp [h0, h1, show ¬ r < 0 by omega]
theorem sp_of (wf n k N : Nat) (m : Mem) (v : Val) (d : PyData) (xs : List PyData) (hv : v.nf = v) (hvk : v ≠ .mr k) (hr : rd m v = some d) (hd : d = .list xs ∨ d = .tuple xs) (hB : Bx k N m) (hN : N < 1000000000000000) (h1 : 0 < xs.length) (h2 : xs.length < 1000000) :
    ∃ (y : PyData) (m' : Mem), run T wf (n + 2) 24 [.mr k, v] m = .ok (.d y) m' ∧ y ∈ xs ∧ Bx k (N + 1) m' ∧ Up k m m' := by
  rw [run_succ d__law_of.fnT rfl rfl (by decide)]
  obtain ⟨r, m', h3, h4, h5, h6, h7⟩ := sp_take wf n k N m xs.length hB hN (by omega) (by omega)
  have hr' : rd m' v = some d := by
    cases v with
    | mr j =>
      have hj : j ≠ k := fun e => hvk (by rw [e])
      show (m'[j]?).map _ = _
      rw [h7.2 j hj]
      exact hr
    | d x => exact hr
    | fr x => cases hv
    | dv x => cases hr
  obtain ⟨y, e1, _, e2⟩ := atI_in (xs := xs) h4 h5
  have e3 : rdR m' v = .ok d m' := by unfold rdR; rw [hr']; rfl
  have e4 : lookAll m [v] = some [d] := by
    show (match rd m v, lookAll m [] with | some x, some xs => some (x :: xs) | _, _ => none) = _
    rw [hr]; rfl
  refine ⟨y, m', ?_, e2, h6, h7⟩
  have e5 : lenD [d] = some (.d (.int xs.length)) := by rcases hd with rfl | rfl <;> rfl
  have e6 : idx d (.int r) = some y := by rcases hd with rfl | rfl <;> exact e1
  simp [d__law_of, Df.fnT, b__law_of, hv, e4, e5, h3, e3, e6, ← h7.1]
/-- old cells but for the box are as they were; new ones may have come -/
def Gr (k : Nat) (m m' : Mem) : Prop := m.length ≤ m'.length ∧ ∀ j, j < m.length → j ≠ k → m'[j]? = m[j]?
theorem Gr.refl (k : Nat) (m : Mem) : Gr k m m := ⟨Nat.le_refl _, fun _ _ _ => rfl⟩
theorem Gr.trans {k : Nat} {m m' m'' : Mem} (a : Gr k m m') (b : Gr k m' m'') : Gr k m m'' := ⟨Nat.le_trans a.1 b.1, fun j h1 h2 => (b.2 j (Nat.lt_of_lt_of_le h1 a.1) h2).trans (a.2 j h1 h2)⟩
theorem Up.gr {k : Nat} {m m' : Mem} (a : Up k m m') : Gr k m m' := ⟨Nat.le_of_eq a.1.symm, fun j _ h => a.2 j h⟩
theorem Gr.app (k : Nat) (m : Mem) (cs : List Cell) : Gr k m (m ++ cs) := ⟨by simp, fun j h _ => List.getElem?_append_left h⟩
theorem Gr.put {k : Nat} {m m' : Mem} (a : Gr k m m') {j : Nat} (c : Cell) (h : m.length ≤ j) : Gr k m (m'.set j c) := ⟨by simpa using a.1, fun i h1 h2 => by
  rw [List.getElem?_set_ne (by omega)]
  exact a.2 i h1 h2⟩
theorem Gr.up {k : Nat} {m m' : Mem} (a : Gr k m m') : Up k m (m'.take m.length) := by
  refine ⟨by rw [List.length_take]; have := a.1; omega, fun j h => ?_⟩
  rcases Nat.lt_or_ge j m.length with l | l
  · rw [List.getElem?_take_of_lt l]
    exact a.2 j l h
  · rw [List.getElem?_eq_none (by rw [List.length_take]; omega), List.getElem?_eq_none l]
theorem Bx.cut {k N L : Nat} {m : Mem} (h : Bx k N m) (hk : k < L) : Bx k N (m.take L) := by
  obtain ⟨a, b, c, h1, r⟩ := h
  exact ⟨a, b, c, by rw [List.getElem?_take_of_lt hk]; exact h1, r⟩
theorem Bx.app {k N : Nat} {m : Mem} (h : Bx k N m) (cs : List Cell) : Bx k N (m ++ cs) := by
  have hk := h.lt
  obtain ⟨a, b, c, h1, r⟩ := h
  exact ⟨a, b, c, by rw [List.getElem?_append_left hk]; exact h1, r⟩
theorem Bx.put {k N j : Nat} {m : Mem} (h : Bx k N m) (c : Cell) (hj : j ≠ k) : Bx k N (m.set j c) := by
  obtain ⟨a, b, d, h1, r⟩ := h
  exact ⟨a, b, d, by rw [List.getElem?_set_ne hj]; exact h1, r⟩
theorem at_new1 (m : Mem) (b c : Cell) (r : List Cell) : (m ++ b :: c :: r)[m.length + 1]? = some c := by
  rw [List.getElem?_append_right (by omega)]
  simp
theorem erase_perm {α : Type} {xs : List α} {i : Nat} {y : α} (h : xs[i]? = some y) : (y :: xs.eraseIdx i).Perm xs := L2.erase_perm xs i y h
theorem sp_pick (wf n k N s : Nat) (m : Mem) (pool : List PyData) (hB : Bx k N m) (hN : N + s < 1000000000000000) (hs : s ≤ pool.length) (hp : pool.length < 1000) :
    ∃ (ys : List PyData) (m' : Mem), run T wf (n + 2) 25 [.mr k, .d (.list pool), .d (.int s)] m = .ok (.fr ys) m' ∧ ys.length = s ∧ (∃ rest, (ys ++ rest).Perm pool) ∧ Bx k (N + s) m' ∧ Up k m m' := by
  have hk := hB.lt
  rw [run_succ d__law_pick.fnT rfl rfl (by decide)]
  obtain ⟨env', m', hf, e3, rest, lot, rfl, hl, hr, hlo, hpm, hlen, hB', hG⟩ := forLoop_inv (t := .nm 3) (body := exB (run T wf (n + 1)) wf [(.app 5 (.pop 4 (.call 22 [(.var 0), (.bi .len [(.var 4)])])))]) (gs := [])
    (fun i env m' => ∃ e3 rest lot, env = [some (.mr k), some (.d (.list pool)), some (.d (.int s)), e3, some (.mr m.length), some (.mr (m.length + 1))] ∧ m'.length = m.length + 2 ∧ m'[m.length]? = some ⟨false, rest⟩ ∧ m'[m.length + 1]? = some ⟨false, lot⟩ ∧
      (lot ++ rest).Perm pool ∧ lot.length = i ∧ Bx k (N + i) m' ∧ Gr k m m') (xs := rangeD 0 s) 0 (env := [some (.mr k), some (.d (.list pool)), some (.d (.int s)), none, some (.mr m.length), some (.mr (m.length + 1))]) (m := m ++ [⟨false, pool⟩, ⟨false, []⟩])
    (by
      rintro i x hx env m1 ⟨e3, rest, lot, rfl, hl, hr, hlo, hpm, hlen, hB1, hG⟩
      obtain ⟨rfl, hi⟩ := rangeD_at s 0 i x hx
      rw [Nat.zero_add] at hlen hB1 ⊢
      have hpl := hpm.length_eq
      rw [List.length_append] at hpl
      obtain ⟨r, m2, a1, a2, a3, a4, a5⟩ := sp_take wf n k (N + i) m1 rest.length hB1 (by omega) (by omega) (by omega)
      have hr2 : m2[m.length]? = some ⟨false, rest⟩ := (a5.2 _ (by omega)).trans hr
      have hlo2 : m2[m.length + 1]? = some ⟨false, lot⟩ := (a5.2 _ (by omega)).trans hlo
      obtain ⟨y, _, hy, _⟩ := atI_in (xs := rest) a2 a3
      have hlk : lookAll m1 [.mr m.length] = some [.list rest] := lookAll_mr _ hr _
      have hlen2 : m2.length = m.length + 2 := a5.1.trans hl
      refine ⟨[some (.mr k), some (.d (.list pool)), some (.d (.int s)), some (.d (.int i)), some (.mr m.length), some (.mr (m.length + 1))], [some (.mr k), some (.d (.list pool)), some (.d (.int s)), some (.d (.int i)), some (.mr m.length), some (.mr (m.length + 1))], (m2.set m.length ⟨false, rest.eraseIdx r.toNat⟩).set (m.length + 1) ⟨false, lot ++ [y]⟩, by simp, ?_, rfl, ⟨_, rest.eraseIdx r.toNat, lot ++ [y], rfl, ?_, ?_, ?_, ?_, ?_, ?_, ?_⟩⟩
      · simp
        rw [cPop_mr (k := m.length) (m1 := m2) (j := r) (xs := rest) (y := y) (by simp) (by simp [hlk, a1]) hr2 a2 (by omega) hy]
        simp
        rw [upCell_mr (j := m.length + 1) (xs := lot) (ys := lot ++ [y]) (h := by simp) (hm := by rw [List.getElem?_set_ne (by omega)]; exact hlo2) (hf := by
          have : lot.length < lim := by simp [lim]; omega
          simp [this])]
        simp
      · simp [hlen2]
      · rw [List.getElem?_set_ne (by omega), List.getElem?_set_self (by omega)]
      · rw [List.getElem?_set_self (by simp; omega)]
      · refine List.Perm.trans ?_ hpm
        rw [List.append_assoc]
        exact List.Perm.append_left _ (erase_perm hy)
      · simp [hlen]
      · have := (a4.put ⟨false, rest.eraseIdx r.toNat⟩ (show m.length ≠ k by omega)).put ⟨false, lot ++ [y]⟩ (show m.length + 1 ≠ k by omega)
        exact this
      · exact ((hG.trans a5.gr).put _ (Nat.le_refl _)).put _ (by omega))
    ⟨none, pool, [], rfl, by simp, at_new _ _ _, at_new1 _ _ _ _, by simp, rfl, hB.app _, Gr.app _ _ _⟩
  rw [Nat.zero_add, rangeD_len] at hlen hB'
  refine ⟨lot, m'.take m.length, ?_, hlen, ⟨rest, hpm⟩, hB'.cut hk, hG.up⟩
  have hlk : lookAll (m ++ [⟨false, pool⟩, ⟨false, []⟩]) [.mr m.length] = some [.list pool] := lookAll_mr _ (at_new _ _ _) _
  have hmin : (if (pool.length : Int) < s then (pool.length : Int) else s) = s := by rw [if_neg (by omega)]
  simp [d__law_pick, Df.fnT, b__law_pick]
  rw [hlk]
  simp [show ¬ pool.length < s by omega]
  rw [M.walk_range (by omega)]
  simp [hf]
  exact leave_new hlo (by omega)
end Ra.K3

set_option Elab.async false
set_option linter.all false
set_option maxRecDepth 100000
set_option maxHeartbeats 3200000
namespace Ra.K3
open PySem M _root_.K1
theorem enumD_at : ∀ (xs : List PyData) (s i : Nat) (x : PyData), (enumD s xs)[i]? = some x → ∃ y, xs[i]? = some y ∧ x = .tuple [.int ((s + i : Nat) : Int), y]
  | [], s, i, x, h => by simp [enumD] at h
  | y :: xs, s, 0, x, h => by
    simp [enumD] at h
    exact ⟨y, rfl, by rw [← h]; simp⟩
  | y :: xs, s, i + 1, x, h => by
    obtain ⟨z, h1, h2⟩ := enumD_at xs (s + 1) i x (by simpa [enumD] using h)
    exact ⟨z, by simpa using h1, by rw [h2, show s + 1 + i = s + (i + 1) by omega]⟩
theorem idx_int {cs : List Int} {c : Nat} (h : c < cs.length) : idx (.list (cs.map PyData.int)) (.int c) = some (.int cs[c]) := by
  show L2.atI _ _ = _
  unfold L2.atI L2.ixN
  simp [show (c : Int) < cs.length by omega, List.getElem?_eq_getElem h]
theorem sp_box (wf n k : Nat) (cs : List Int) (m : Mem) (hk : k < cs.length) (hc : cs.length ≤ 3) : ∃ a b : Int, run T wf (n + 1) 21 [.d (.list (cs.map PyData.int)), .d (.int k)] m = .ok (.fr [.int a, .int b, .int 0]) m ∧ 0 ≤ a ∧ 0 ≤ b ∧ b < 4611686018427387904 := by
  rw [run_succ d__law_box.fnT rfl rfl (by decide)]
  have hlt : (k : Int) < cs.length := by omega
  obtain ⟨g, hg⟩ : ∃ g : Int, cs[k] = g := ⟨_, rfl⟩
  have hp : bop .pow (.int 10) (.int 18) = some (.d (.int 1000000000000000000)) := by rfl
  have hm : ∀ (x : Int) (b : Bool), bop .mul (.int x) (.int (if b then 1 else 0)) = some (.d (.int (x * if b then 1 else 0))) := fun x b => mulI (.inr (by cases b <;> decide))
  have hmod : bop .mod (.int g) (.int 2305843009213693951) = some (.d (.int (g.fmod 2305843009213693951))) := modI (by decide)
  have hmk : bop .mul (.int 39373) (.int k) = some (.d (.int (39373 * k))) := mulI (.inl (by decide))
  have hf := fm (i := g) (j := 2305843009213693951) (by decide)
  refine ⟨(if g < 0 then -g else g) * (if decide (1000000000000000000 ≤ (if g < 0 then -g else g)) then 1 else 0), g.fmod 2305843009213693951 + 39373 * k + 854, ?_, ?_, by omega, by omega⟩
  · simp only [d__law_box, Df.fnT, b__law_box]
    simp only [List.length_cons, List.length_nil, List.map_cons, List.map_nil, M.exB_cons, M.x_set, M.v_ite, M.t_cmp, M.v_cmp, M.v_var, getV_succ, getV_zero, List.cons_append, List.nil_append, optR_some, Res.bind_ok, M.v_bi, M.cArgs_cons, M.cArgs_nil, nf_d, lookAll_d, lookAll_nil, Option.map_some, M.bi_len, M.len_list, List.length_map, rdR_d, M.cmp_ltI, hlt, decide_true, M.boolR_eq, M.truR_bool, if_true, M.v_idx, idx_int hk, hg, stored_f, Res.noX_ok]
    simp [hp, hm, hmod, hmk]
    have e := hm (if g < 0 then -g else g) (decide (1000000000000000000 ≤ (if g < 0 then -g else g)))
    simp only [decide_eq_true_eq] at e
    simp [e]
  · refine Int.mul_nonneg (by split <;> omega) (by split <;> omega)
theorem cut3 {α : Type} (xs : List α) : cut xs none (some 3) = xs.take 3 := by
  unfold cut
  rw [show (3 : Int) = ((3 : Nat) : Int) from rfl, HT.sIx_nat, HT.sIx_none, Nat.sub_zero, List.drop_zero]
  rcases Nat.le_total 3 xs.length with h | h
  · rw [Nat.min_eq_left h]
  · rw [Nat.min_eq_right h, List.take_of_length_le (Nat.le_refl _), List.take_of_length_le h]
theorem cutY {α : Type} (xs : List α) : (cut xs (some 3) (some 63) ≠ [] → 3 ≤ xs.length) ∧ (∀ y ∈ cut xs (some 3) (some 63), y ∈ xs) ∧ (cut xs (some 3) (some 63)).length ≤ 63 := by
  unfold cut
  rw [show (3 : Int) = ((3 : Nat) : Int) from rfl, show (63 : Int) = ((63 : Nat) : Int) from rfl, HT.sIx_nat, HT.sIx_nat]
  refine ⟨fun h => ?_, fun y hy => List.mem_of_mem_drop (List.mem_of_mem_take hy), by simp; omega⟩
  rcases Nat.lt_or_ge xs.length 3 with q | q
  · exfalso
    apply h
    rw [List.drop_of_length_le (by omega)]
    simp
  · exact q
def clB : List S := [(.set 5 false (.op .mod (.bi .int [(.var 3)]) (.var 1))), (.put 2 (.var 5) (.op .add (.idx (.var 2) (.var 5)) (.op .mul (.var 4) (.op .add (.var 3) (.cst (.int 2))))))]
theorem cl_step (wf n : Nat) (sc : PyData) (cs : List Int) (m : Mem) (i : Nat) (hi : i < 63) (g : Int) (hc : cs.length = 3) (e5 : Option Val) : ∃ (e5' : Option Val) (cs' : List Int), exB (run T wf n) wf clB [some (.d sc), some (.d (.int 3)), some (.mr m.length), some (.d (.int i)), some (.d (.int g)), e5] (m ++ [⟨false, cs.map PyData.int⟩]) =
    .ok (.next [some (.d sc), some (.d (.int 3)), some (.mr m.length), some (.d (.int i)), some (.d (.int g)), e5']) (m ++ [⟨false, cs'.map PyData.int⟩]) ∧ cs'.length = 3 := by
  have hf := fm (i := (i : Int)) (j := 3) (by decide)
  obtain ⟨r, hr⟩ : ∃ r : Nat, (i : Int).fmod 3 = r := ⟨((i : Int).fmod 3).toNat, by omega⟩
  have hr3 : r < cs.length := by omega
  have hmod : bop .mod (.int i) (.int 3) = some (.d (.int r)) := by rw [modI (by decide), hr]
  have hmul : bop .mul (.int g) (.int ((i : Int) + 2)) = some (.d (.int (g * ((i : Int) + 2)))) := mulI (.inr (sm (by omega) (by omega)))
  have hrd : rdR (m ++ [⟨false, cs.map PyData.int⟩]) (.mr m.length) = .ok (.list (cs.map PyData.int)) (m ++ [⟨false, cs.map PyData.int⟩]) := rdR_mr _ (at_new _ _ _)
  refine ⟨some (.d (.int r)), cs.set r (cs[r] + g * ((i : Int) + 2)), ?_, by simp [hc]⟩
  have hup : ∀ env : Env, getV env 2 = some (.mr m.length) → upCell env 2 (putD (.int r) (.int (cs[r] + g * ((i : Int) + 2)))) (m ++ [⟨false, cs.map PyData.int⟩]) = .ok (.next env) (m ++ [⟨false, (cs.set r (cs[r] + g * ((i : Int) + 2))).map PyData.int⟩]) := by
    intro env h
    rw [upCell_mr _ _ (j := m.length) (xs := cs.map PyData.int) (ys := (cs.set r (cs[r] + g * ((i : Int) + 2))).map PyData.int) h (at_new _ _ _) (by
      show (L2.ixN (cs.map PyData.int).length r).map _ = _
      unfold L2.ixN
      simp [show (r : Int) < cs.length by omega, List.map_set]), set_new]
  have s1 : exS (run T wf n) wf (.set 5 false (.op .mod (.bi .int [(.var 3)]) (.var 1))) [some (.d sc), some (.d (.int 3)), some (.mr m.length), some (.d (.int i)), some (.d (.int g)), e5] (m ++ [⟨false, cs.map PyData.int⟩]) = .ok (.next [some (.d sc), some (.d (.int 3)), some (.mr m.length), some (.d (.int i)), some (.d (.int g)), some (.d (.int r))]) (m ++ [⟨false, cs.map PyData.int⟩]) := by
    simp [hmod]
  have s2 : exS (run T wf n) wf (.put 2 (.var 5) (.op .add (.idx (.var 2) (.var 5)) (.op .mul (.var 4) (.op .add (.var 3) (.cst (.int 2)))))) [some (.d sc), some (.d (.int 3)), some (.mr m.length), some (.d (.int i)), some (.d (.int g)), some (.d (.int r))] (m ++ [⟨false, cs.map PyData.int⟩]) = .ok (.next [some (.d sc), some (.d (.int 3)), some (.mr m.length), some (.d (.int i)), some (.d (.int g)), some (.d (.int r))]) (m ++ [⟨false, (cs.set r (cs[r] + g * ((i : Int) + 2))).map PyData.int⟩]) := by
    have hix := idx_int hr3
    have hu := hup [some (.d sc), some (.d (.int 3)), some (.mr m.length), some (.d (.int i)), some (.d (.int g)), some (.d (.int r))] (by simp)
    rw [M.x_put]
    simp only [M.v_op, M.v_idx, M.v_var, getV_succ, getV_zero, optR_some, Res.bind_ok, nf_mr, nf_d, hrd, rdR_d, hix, M.v_cst, addI, hmul, frz_d, Res.noX_ok]
    rw [onCell_mr (j := m.length) (h := by simp)]
    exact hu
  rw [clB, M.exB_cons, s1, Res.bind_ok, nextF_next, M.exB_cons, s2, Res.bind_ok, nextF_next, M.exB_nil]
theorem sp_cells (wf n : Nat) (ns : List Int) (h63 : ns.length ≤ 63) (m : Mem) : ∃ cs : List Int, run T wf (n + 1) 23 [.d (.list (ns.map PyData.int)), .d (.int 3)] m = .ok (.fr (cs.map PyData.int)) m ∧ 0 < cs.length ∧ cs.length ≤ 3 := by
  rw [run_succ d__law_cells.fnT rfl rfl (by decide)]
  obtain ⟨Y, hY⟩ : ∃ z, z = cut (ns.map PyData.int) (some 3) (some 63) := ⟨_, rfl⟩
  obtain ⟨y1, y2, y3⟩ := cutY (ns.map PyData.int)
  rw [← hY] at y1 y2 y3
  obtain ⟨c0, hc0⟩ : ∃ z : List Int, z = if ns = [] then [0] else ns.take 3 := ⟨_, rfl⟩
  have hc0l : 0 < c0.length ∧ c0.length ≤ 3 ∧ (Y ≠ [] → c0.length = 3) := by
    by_cases hn : ns = []
    · rw [hc0, if_pos hn]
      refine ⟨by simp, by simp, fun h => ?_⟩
      have := y1 h
      rw [hn] at this
      simp at this
    · have := List.length_pos_iff.mpr hn
      rw [hc0, if_neg hn]
      refine ⟨by simp; omega, by simp; omega, fun h => ?_⟩
      have := y1 h
      rw [List.length_map] at this
      simp; omega
  obtain ⟨env', m', h1, e3, e4, e5, cs, rfl, rfl, h2⟩ := forLoop_inv (t := .tp [.nm 3, .nm 4]) (body := exB (run T wf n) wf clB) (gs := [])
    (fun i env m' => ∃ e3 e4 e5 cs, env = [some (.d (.list (ns.map PyData.int))), some (.d (.int 3)), some (.mr m.length), e3, e4, e5] ∧ m' = m ++ [⟨false, cs.map PyData.int⟩] ∧ cs.length = c0.length) (xs := enumD 0 Y) 0 (env := [some (.d (.list (ns.map PyData.int))), some (.d (.int 3)), some (.mr m.length), none, none, none]) (m := m ++ [⟨false, c0.map PyData.int⟩]) (by
      rintro i x hx env m' ⟨e3, e4, e5, cs, rfl, rfl, h2⟩
      obtain ⟨y, hy, rfl⟩ := enumD_at Y 0 i x hx
      obtain ⟨g, _, rfl⟩ := List.mem_map.mp (y2 y (List.mem_of_getElem? hy))
      have hi : i < 63 := by
        have := (List.getElem?_eq_some_iff.mp hy).1
        omega
      have hne : Y ≠ [] := fun e => by rw [e] at hy; simp at hy
      obtain ⟨e5', cs', q1, q2⟩ := cl_step wf n (.list (ns.map PyData.int)) cs m i hi g (by rw [h2]; exact hc0l.2.2 hne) e5
      exact ⟨[some (.d (.list (ns.map PyData.int))), some (.d (.int 3)), some (.mr m.length), some (.d (.int i)), some (.d (.int g)), e5], _, _, by simp, q1, rfl, _, _, e5', cs', rfl, rfl, by rw [q2, hc0l.2.2 hne]⟩)
    ⟨none, none, none, c0, rfl, rfl, rfl⟩
  refine ⟨cs, ?_, by omega, by omega⟩
  have s1 : exS (run T wf n) wf (.set 2 true (.bor [(.bi .list [(.slU (.var 0) (.var 1))]), (.lst [(.cst (.int 0))])])) [some (.d (.list (ns.map PyData.int))), some (.d (.int 3)), none, none, none, none] m = .ok (.next [some (.d (.list (ns.map PyData.int))), some (.d (.int 3)), some (.mr m.length), none, none, none]) (m ++ [⟨false, c0.map PyData.int⟩]) := by
    have e1 : slc (.list (ns.map PyData.int)) none (some 3) = some (.fr ((ns.take 3).map PyData.int)) := by
      simp only [slc, cut3, List.map_take]
    by_cases hn : ns = []
    · subst hn
      simp [hc0, slc, cut3]
    · have : (ns.take 3).map PyData.int ≠ [] := by
        cases ns with
        | nil => exact absurd rfl hn
        | cons a b => simp
      simp [e1, hc0, hn]
  rw [show d__law_cells.fnT.body = [(.set 2 true (.bor [(.bi .list [(.slU (.var 0) (.var 1))]), (.lst [(.cst (.int 0))])])), (.for (.tp [(.nm 3), (.nm 4)]) .enum [(.slLU (.var 0) (.var 1) (.cst (.int 63)))] clB), (.ret (.var 2))] from rfl]
  rw [show (List.map some [Val.d (.list (ns.map PyData.int)), .d (.int 3)] ++ List.replicate (d__law_cells.fnT.n - d__law_cells.fnT.ps) none) = [some (.d (.list (ns.map PyData.int))), some (.d (.int 3)), none, none, none, none] from rfl]
  rw [M.exB_cons, s1, Res.bind_ok, nextF_next]
  simp [slc, ← hY, h1]
  rw [leave_new (at_new _ _ _) (Nat.le_refl _)]
  simp
end Ra.K3

set_option Elab.async false
set_option linter.all false
set_option maxRecDepth 100000
set_option maxHeartbeats 800000
namespace Ra.K3
open PySem M _root_.K1
@[simp] theorem x_raise1 (call : Call) (wf c : Nat) (e : E) (env : Env) (m : Mem) : exS call wf (.raise1 c e) env m = ((sem call e).v env m).noX.bind fun v m1 => (frz v m1).bind fun x m2 => .exc ⟨c, [x]⟩ m2 := rfl
@[simp] theorem x_exprx (call : Call) (wf : Nat) (e : XE) (env : Env) (m : Mem) : exS call wf (.exprx e) env m = (xv call e env m).bind fun _ m1 => .ok (.next env) m1 := rfl
@[simp] theorem x_retx (call : Call) (wf : Nat) (e : XE) (env : Env) (m : Mem) : exS call wf (.retx e) env m = (xv call e env m).bind fun v m1 => .ok (.ret v) m1 := rfl
@[simp] theorem x_setx (call : Call) (wf i : Nat) (c : Bool) (e : XE) (env : Env) (m : Mem) : exS call wf (.setx i c e) env m = (xv call e env m).bind fun v m1 => (stored c v m1).bind fun v' m2 => setIn env i v' m2 := rfl
@[simp] theorem xv_call (call : Call) (f : Nat) (es : List E) (env : Env) (m : Mem) : xv call (.call f es) env m = (cArgs (sems call es) env m).noX.bind fun vs m1 => call f vs m1 := rfl
@[simp] theorem xv_ite (call : Call) (c : E) (a b : XE) (env : Env) (m : Mem) : xv call (.ite c a b) env m = ((sem call c).t env m).noX.bind fun t m1 => if t = true then xv call a env m1 else xv call b env m1 := rfl
theorem cmp_neS (a b : Str) : cmp .ne (.str a) (.str b) = some (!decide (a = b)) := by
  have hd : deep (.str a) (.str b) = true := decide_eq_true (by rw [depth_str, depth_str]; decide)
  show (if deep (.str a) (.str b) = true then some (!PyData.eqv (.str a) (.str b)) else none) = _
  rw [if_pos hd, eqv_str]
  congr 1
theorem e1 (s : Sp) : idx (enc s) (.int 1) = some (.str s.me) := idx1 _ _ _
/-- a plan of this law -/
structure W1 (P : List Sp) : Prop extends WQ P where
  zz : ∀ s ∈ P, strLt s.nm "zz" = true
  rl : ∀ s ∈ P, s.rd.length ≤ 8
def methL (P : List Sp) : List Str := P.map Sp.me
def pagesL (P : List Sp) : List Str := P.flatMap fun s => s.rd ++ [s.sh]
def madeL (P : List Sp) : List Str := P.map Sp.sh
def needL (made : List Str) (P : List Sp) : List Str := P.flatMap fun s => s.rd.filter fun r => !decide (r ∈ made)
theorem W1.pages_len {P : List Sp} (h : W1 P) : (pagesL P).length ≤ 100 := by
  have := flat_len (fun s : Sp => s.rd ++ [s.sh]) 9 (l := P) fun s hs => by
    rw [List.length_append, List.length_singleton]
    have := h.rl s hs
    omega
  have := h.len
  show (P.flatMap _).length ≤ 100
  omega
theorem live_sub (V : List Str) (P : List Sp) : (live V P).Sublist P := List.filter_sublist
theorem need_len {P : List Sp} (made : List Str) (h : ∀ s ∈ P, s.rd.length ≤ 8) (hl : P.length ≤ 8) : (needL made P).length ≤ 100 := by
  have := flat_len (fun s : Sp => s.rd.filter fun r => !decide (r ∈ made)) 8 (l := P) fun s hs => Nat.le_trans (List.length_filter_le _ _) (h s hs)
  show (P.flatMap _).length ≤ 100
  omega
theorem sp_methods {x : PyData} {P : List Sp} (hx : Rd x P) (hP : W1 P) (wf n : Nat) (hn : 6 ≤ n) (m : Mem) : run T wf n 12 [.d x] m = .ok (.d (encV (setS (methL P)))) m := by
  obtain ⟨n, rfl⟩ : ∃ k, n = k + 1 := ⟨n - 1, by omega⟩
  have := hP.len
  rw [run_succ d_methods_in.fnT rfl rfl (by decide)]
  simp [d_methods_in, Df.fnT, b_methods_in, hx.run wf n (by omega)]
  rw [lcLoop_ofm enc (fun s => .str s.me) rfl]
  · have e : (P.map fun s => PyData.str s.me) = (methL P).map PyData.str := by simp [methL]
    simp [e, sp_setL wf n (by omega) (methL P) (by simp [methL]; omega)]
  · intro s hs
    simp [e1]
/-- a variant, as a tuple or a list -/
def Vr (v : PyData) (V : List Str) : Prop := v = encV V ∨ v = .list (V.map PyData.str)
theorem Vr.inn {v : PyData} {V : List Str} (h : Vr v V) (x : Str) : cmp .isin (.str x) v = some (decide (x ∈ V)) := by
  rcases h with rfl | rfl
  · exact cmp_inT x V
  · exact cmp_inL x V
theorem sp_holdsG (wf n : Nat) (hn : 1 ≤ n) (cd : List (Str × Int)) {v : PyData} {V : List Str} (hv : Vr v V) (m : Mem) : run T wf n 8 [.d (encC cd), .d v] m = .ok (.d (.bool (holdB cd V))) m := by
  obtain ⟨n, rfl⟩ : ∃ k, n = k + 1 := ⟨n - 1, by omega⟩
  rw [run_succ d_holds.fnT rfl rfl (by decide)]
  simp [d_holds, Df.fnT, b_holds, encC]
  rw [lcLoop_ofm _ (fun p => .bool (decide (p.1 ∈ V) == (p.2 == 1))) rfl]
  · simp [allB_eq, holdB]
  · intro p hp
    simp [cmp_eqB, hv.inn]
theorem sp_runG {x : PyData} {P : List Sp} (hx : Rd x P) (wf n : Nat) (hn : 6 ≤ n) {v : PyData} {V : List Str} (hv : Vr v V) (m : Mem) : run T wf n 9 [.d x, .d v] m = .ok (.d (encP (live V P))) m := by
  obtain ⟨n, rfl⟩ : ∃ k, n = k + 1 := ⟨n - 1, by omega⟩
  rw [run_succ d_running.fnT rfl rfl (by decide)]
  simp [d_running, Df.fnT, b_running, hx.run wf n (by omega)]
  rw [lcLoop_of enc (fun s => holdB s.cd V) enc rfl]
  · simp [live, encP]
  · intro s hs
    simp [e4, sp_holdsG wf n (by omega) _ hv]
theorem sp_made {x : PyData} {P : List Sp} (hx : Rd x P) (hP : W1 P) (wf n : Nat) (hn : 7 ≤ n) {v : PyData} {V : List Str} (hv : Vr v V) (m : Mem) : run T wf n 15 [.d x, .d v] m = .ok (.d (encV (setS (madeL (live V P))))) m := by
  obtain ⟨n, rfl⟩ : ∃ k, n = k + 1 := ⟨n - 1, by omega⟩
  have := hP.len
  have := (live_sub V P).length_le
  rw [run_succ d_made_at.fnT rfl rfl (by decide)]
  simp [d_made_at, Df.fnT, b_made_at, sp_runG hx wf n (by omega) hv]
  rw [lcLoop_ofm enc (fun s => .str s.sh) rfl]
  · have e : ((live V P).map fun s => PyData.str s.sh) = (madeL (live V P)).map PyData.str := by simp [madeL]
    simp [e, sp_setL wf n (by omega) (madeL (live V P)) (by simp [madeL]; omega)]
  · intro s hs
    simp [e3]
theorem sp_sheets {x : PyData} {P : List Sp} (hx : Rd x P) (hP : W1 P) (wf n : Nat) (hn : 6 ≤ n) (m : Mem) : run T wf n 13 [.d x] m = .ok (.d (encV (setS (pagesL P)))) m := by
  obtain ⟨n, rfl⟩ : ∃ k, n = k + 1 := ⟨n - 1, by omega⟩
  have hfl := hP.pages_len
  have this : (P.flatMap fun s => (s.rd ++ [s.sh]).map PyData.str) = (pagesL P).map PyData.str := by
    unfold pagesL; rw [List.map_flatMap]
  rw [run_succ d_sheets_in.fnT rfl rfl (by decide)]
  simp [d_sheets_in, Df.fnT, b_sheets_in, hx.run wf n (by omega)]
  rw [lc2Loop_of enc (fun s => (s.rd ++ [s.sh]).map PyData.str) rfl lim (fun _ => rfl) (by
    rw [this, List.length_map]
    simp [lim]; omega)]
  · rw [this]
    simp [sp_setL wf n (by omega) (pagesL P) (by omega)]
  · intro s hs
    have := hP.rl s hs
    refine ⟨[some (.d x), some (.d (enc s)), none], by simp, fun k hk => ?_⟩
    have hk' : k + (s.rd.length + 1) ≤ lim := by simpa using hk
    have h1 : s.rd.length + 1 ≤ lim := by simp [lim]; omega
    simp [lcIn, e2, e3, h1]
    rw [if_pos hk']
    have e : (s.rd.map PyData.str ++ [PyData.str s.sh]) = (s.rd ++ [s.sh]).map PyData.str := by simp
    rw [e, lcLoop_ofm PyData.str PyData.str rfl]
    · intro r hr
      simp
theorem sp_needed {x : PyData} {P : List Sp} (hx : Rd x P) (hP : W1 P) (wf n : Nat) (hn : 8 ≤ n) {v : PyData} {V : List Str} (hv : Vr v V) (m : Mem) :
    run T wf n 16 [.d x, .d v] m = .ok (.d (encV (setS (needL (madeL (live V P)) (live V P))))) m := by
  obtain ⟨n, rfl⟩ : ∃ k, n = k + 1 := ⟨n - 1, by omega⟩
  have hl := hP.len
  have hl2 := (live_sub V P).length_le
  have hrl : ∀ s ∈ live V P, s.rd.length ≤ 8 := fun s hs => hP.rl s ((live_sub V P).subset hs)
  have hfl := need_len (madeL (live V P)) hrl (by omega)
  have this : ((live V P).flatMap fun s => (s.rd.filter fun r => !decide (r ∈ madeL (live V P))).map PyData.str) = (needL (madeL (live V P)) (live V P)).map PyData.str := by
    unfold needL; rw [List.map_flatMap]
  rw [run_succ d_counts_needed.fnT rfl rfl (by decide)]
  simp [d_counts_needed, Df.fnT, b_counts_needed, sp_made hx hP wf n (by omega) hv, sp_runG hx wf n (by omega) hv]
  rw [lc2Loop_of enc (fun s => (s.rd.filter fun r => !decide (r ∈ madeL (live V P))).map PyData.str) rfl 1000 (fun _ => rfl) (by
    rw [this, List.length_map]
    omega)]
  · rw [this]
    simp [sp_setL wf n (by omega) _ (by omega : (needL (madeL (live V P)) (live V P)).length < 4000)]
  · intro s hs
    have := hrl s hs
    refine ⟨[some (.d x), some (.d v), some (.d (encV (setS (madeL (live V P))))), some (.d (enc s)), none], by simp, fun k hk => ?_⟩
    have hk' : k + s.rd.length ≤ lim := by simp [lim]; omega
    simp [lcIn, e2]
    rw [if_pos hk', lcLoop_of PyData.str (fun r => !decide (r ∈ madeL (live V P))) PyData.str rfl]
    intro r hr
    simp [encV, mem_setS]
def frst : List Sp → PyData
  | [] => .none
  | s :: _ => enc s
theorem sp_maker {x : PyData} {P : List Sp} (hx : Rd x P) (wf n : Nat) (hn : 7 ≤ n) {v : PyData} {V : List Str} (hv : Vr v V) (page : Str) (m : Mem) :
    run T wf n 17 [.d x, .d v, .d (.str page)] m = .ok (.d (frst ((live V P).filter fun s => decide (s.sh = page)))) m := by
  obtain ⟨n, rfl⟩ : ∃ k, n = k + 1 := ⟨n - 1, by omega⟩
  rw [run_succ d_maker.fnT rfl rfl (by decide)]
  simp [d_maker, Df.fnT, b_maker, sp_runG hx wf n (by omega) hv]
  rw [lcLoop_of enc (fun s => decide (s.sh = page)) enc rfl]
  · cases h : (live V P).filter fun s => decide (s.sh = page) with
    | nil => simp [frst]
    | cons s r => simp [frst, idxL0]
  · intro s hs
    simp [e3, cmp_eqS]
/-- step_of, where there is one -/
theorem sp_stepof {x : PyData} {P : List Sp} (hx : Rd x P) (wf n : Nat) (hn : 6 ≤ n) (nm : Str) (m : Mem) :
    run T wf n 10 [.d x, .d (.str nm)] m = match P.filter (fun s => decide (s.nm = nm)) with | [] => .exc ⟨0, [.str nm]⟩ m | s :: _ => .ok (.d (enc s)) m := by
  obtain ⟨n, rfl⟩ : ∃ k, n = k + 1 := ⟨n - 1, by omega⟩
  rw [run_succ d_step_of.fnT rfl rfl (by decide)]
  simp [d_step_of, Df.fnT, b_step_of, hx.run wf n (by omega)]
  rw [lcLoop_of enc (fun s => decide (s.nm = nm)) enc rfl]
  · cases h : P.filter fun s => decide (s.nm = nm) with
    | nil => simp
    | cons s r =>
      have hne : ¬ ((r.length : Int) + 1 = 0) := by omega
      simp [idxL0, hne]
  · intro s hs
    simp [e0, cmp_eqS]
theorem sp_without {x : PyData} {P : List Sp} (hx : Rd x P) (wf n : Nat) (hn : 7 ≤ n) (nm : Str) (m : Mem) :
    run T wf n 19 [.d x, .d (.str nm)] m = match P.filter (fun s => decide (s.nm = nm)) with | [] => .exc ⟨0, [.str nm]⟩ m | _ :: _ => .ok (.d (encP (P.filter fun s => !decide (s.nm = nm)))) m := by
  obtain ⟨n, rfl⟩ : ∃ k, n = k + 1 := ⟨n - 1, by omega⟩
  rw [run_succ d_without_step.fnT rfl rfl (by decide)]
  cases h : P.filter fun s => decide (s.nm = nm) with
  | nil => simp [d_without_step, Df.fnT, b_without_step, sp_stepof hx wf n (by omega), h]
  | cons s r =>
    simp [d_without_step, Df.fnT, b_without_step, sp_stepof hx wf n (by omega), h, hx.run wf n (by omega)]
    rw [lcLoop_of enc (fun s => !decide (s.nm = nm)) enc rfl]
    · simp [encP]
    · intro s hs
      simp [e0, cmp_neS]
end Ra.K3


set_option Elab.async false
set_option linter.all false
set_option maxRecDepth 100000
set_option maxHeartbeats 800000
namespace Ra.K3
open PySem M _root_.K1
/-! steps in order -/
theorem alike_prs : ∀ xs ys : List (Str × Int), PySem.W.alikeAll (xs.map fun p => PyData.tuple [.str p.1, .int p.2]) (ys.map fun p => PyData.tuple [.str p.1, .int p.2]) = true
  | [], _ => by simp [PySem.W.alikeAll]
  | _ :: _, [] => by simp [PySem.W.alikeAll]
  | x :: xs, y :: ys => by
    rw [List.map_cons, List.map_cons, PySem.W.alikeAll, alike_prs xs ys]
    simp [PySem.W.alike, PySem.W.alikeAll]
theorem alike_enc (a b : Sp) : PySem.W.alike (enc a) (enc b) = true := by
  simp only [enc, encC, PySem.W.alike, PySem.W.alikeAll, alikeAll_strs, alike_prs, Bool.and_self]
theorem nest_strs : ∀ L : List Str, nestBs (L.map PyData.str) = true
  | [] => by simp [nestBs]
  | x :: L => by simp [nestBs, nestB, nest_strs L]
theorem nest_prs : ∀ L : List (Str × Int), nestBs (L.map fun p => PyData.tuple [.str p.1, .int p.2]) = true
  | [] => by simp [nestBs]
  | x :: L => by simp [nestBs, nestB, nest_prs L]
theorem nest_enc (s : Sp) : nestB (enc s) = true := by
  simp [enc, encC, nestB, nestBs, nest_strs, nest_prs]
theorem keyTup_enc (L : List Sp) : keyTup (L.map enc) = true := by
  unfold keyTup
  rw [List.all_eq_true]
  intro x hx
  obtain ⟨s, _, rfl⟩ := List.mem_map.mp hx
  have := depth_enc s
  have hd : (enc s).depth ≤ 8 := by omega
  have h1 : isTupC (enc s) = true := rfl
  simp [nest_enc, hd, h1]
theorem lt_enc {a b : Sp} (h : a.nm ≠ b.nm) : PySem.W.dataLt (enc a) (enc b) = strLt a.nm b.nm := by
  unfold enc
  rw [PySem.W.dataLt_tuple, PySem.W.dataLt_all_no (by simp [PySem.W.alike]) (by rw [eqv_strd]; exact decide_eq_false h), PySem.W.dataLt_str]
  rfl
theorem strLt_asymm {a b : Str} (h : strLt a b = true) : strLt b a = false := by
  cases e : strLt b a with
  | false => rfl
  | true => exact absurd rfl (strLt_ne (strLt_trans h e))
theorem ins_end (x : PyData) : ∀ {l : List PyData}, (∀ y ∈ l, PySem.W.dataLt x y = false) → ins x l = l ++ [x]
  | [], _ => rfl
  | y :: l, h => by
    unfold ins
    rw [h y List.mem_cons_self, if_neg (by simp), ins_end x fun z hz => h z (List.mem_cons_of_mem _ hz)]
    rfl
theorem isort_id : ∀ (l acc : List PyData), (acc ++ l).Pairwise (fun a b => PySem.W.dataLt b a = false) → isort acc l = acc ++ l
  | [], acc, _ => by simp [isort]
  | x :: l, acc, h => by
    unfold isort
    have h1 := (List.pairwise_append.mp h).2.2
    rw [ins_end x fun y hy => h1 y hy x List.mem_cons_self, isort_id l (acc ++ [x]) (by rw [List.append_assoc]; exact h), List.append_assoc]
    rfl
theorem dedup_id : ∀ (l acc : List PyData), (acc.reverse ++ l).Pairwise (fun a b => PyData.eqv a b = false) → dedup acc l = acc.reverse ++ l
  | [], acc, _ => by simp [dedup]
  | x :: l, acc, h => by
    unfold dedup
    have h1 := (List.pairwise_append.mp h).2.2
    have hn : (acc.any fun y => PyData.eqv y x) = false := by
      rw [List.any_eq_false]
      intro y hy
      rw [h1 y (List.mem_reverse.mpr hy) x List.mem_cons_self]
      simp
    rw [hn, if_neg (by simp), dedup_id l (x :: acc) (by simpa using h)]
    simp
theorem alike_encs (L : List Sp) : allAlike (L.map enc) = true := by
  unfold allAlike
  rw [List.all_eq_true]
  intro x hx
  rw [List.all_eq_true]
  intro y hy
  obtain ⟨a, _, rfl⟩ := List.mem_map.mp hx
  obtain ⟨b, _, rfl⟩ := List.mem_map.mp hy
  exact alike_enc a b
theorem sortable_encs (L : List Sp) : sortable (L.map enc) = true := by
  unfold sortable
  have : (L.map enc).all isTupC = true := by
    rw [List.all_eq_true]
    intro x hx
    obtain ⟨a, _, rfl⟩ := List.mem_map.mp hx
    rfl
  simp [this]
theorem sortD_encs (L : List Sp) : sortD (L.map enc) = some (isort [] (L.map enc)) := by
  unfold sortD
  have := depth_encs L
  rw [if_pos (by rw [alike_encs, sortable_encs, decide_eq_true (by omega : PyData.depthAll (L.map enc) ≤ 64)]; rfl)]
theorem ris_encs {L : List Sp} (h : risB (L.map Sp.nm) = true) : (L.map enc).Pairwise fun a b => PySem.W.dataLt b a = false := by
  have q := List.pairwise_map.mp (ris_pair.mp h)
  exact List.pairwise_map.mpr (q.imp fun {a b} z => by rw [lt_enc (Ne.symm (strLt_ne z)), strLt_asymm z])
theorem ris_encE {L : List Sp} (h : risB (L.map Sp.nm) = true) : (L.map enc).Pairwise fun a b => PyData.eqv a b = false := by
  have q := List.pairwise_map.mp (ris_pair.mp h)
  exact List.pairwise_map.mpr (q.imp fun {a b} z => by
    rw [eqv_enc]
    exact decide_eq_false fun e => strLt_ne z (by rw [e]))
/-- a plan in order is its own set -/
theorem set_encs {L : List Sp} (h : risB (L.map Sp.nm) = true) : sortD (dedup [] (L.map enc)) = some (L.map enc) := by
  rw [dedup_id _ _ (by simpa using ris_encE h)]
  simp only [List.reverse_nil, List.nil_append]
  rw [sortD_encs, isort_id _ _ (by simpa using ris_encs h)]
  rfl
theorem allStr_encs {a : Sp} {L : List Sp} : allStr ((a :: L).map enc) = false := rfl
theorem sp_setP (wf n : Nat) (hn : 1 ≤ n) {L : List Sp} (h : risB (L.map Sp.nm) = true) (hl : L.length < 64) (m : Mem) : run T wf n 4 [.d (.list (L.map enc))] m = .ok (.d (encP L)) m := by
  obtain ⟨n, rfl⟩ : ∃ k, n = k + 1 := ⟨n - 1, by omega⟩
  rw [run_succ d_set_of.fnT rfl rfl (by decide)]
  have e : bi .sortedset [.list (L.map enc)] = some (.fr (L.map enc)) := by
    rw [show ∀ z, bi .sortedset z = sortedsetD z from fun _ => rfl]
    unfold sortedsetD
    simp only
    rw [set_encs h]
    split
    · rfl
    · rw [if_pos ⟨keyTup_enc L, by rw [List.length_map]; exact hl⟩]
      rfl
  simp [d_set_of, Df.fnT, b_set_of, e, encP]
theorem strLt_tri {a b : Str} (h : a ≠ b) (h2 : strLt b a = false) : strLt a b = true := by
  cases e : strLt a b with
  | true => rfl
  | false =>
    have e' := of_decide_eq_false e
    have h2' := of_decide_eq_false h2
    exact absurd (PySem.W.str_of_cps (List.le_antisymm (List.not_lt.mp h2') (List.not_lt.mp e'))) h
/-- sorted(steps), names apart -/
theorem sort_encs {L : List Sp} (h : (L.map Sp.nm).Nodup) : ∃ Q : List Sp, sortD (L.map enc) = some (Q.map enc) ∧ Q.Perm L ∧ risB (Q.map Sp.nm) = true := by
  have p := isort_perm (L.map enc) []
  rw [List.nil_append] at p
  obtain ⟨Q, q1, q2⟩ := perm_map p rfl
  refine ⟨Q, by rw [sortD_encs, q2], q1, ris_pair.mpr ?_⟩
  have hs := isort_sorted (L.map enc) [] .nil
  rw [q2] at hs
  have hn : (Q.map Sp.nm).Nodup := (q1.map Sp.nm).nodup_iff.mpr h
  have h1 := List.pairwise_map.mp hs
  have h2 := List.pairwise_map.mp hn
  refine List.pairwise_map.mpr ((h1.and h2).imp fun {a b} z => ?_)
  have z1 := z.1
  rw [dle_eq, lt_enc (Ne.symm z.2)] at z1
  exact strLt_tri z.2 (by simpa using z1)
/-! with_step -/
def softP (P : List Sp) : PyData := lisD (encP P)
theorem soft_list (P : List Sp) : softP P = .list (P.map fun s => lisD (enc s)) := by
  simp [softP, encP, lisD, lisDs_eq]
theorem soft0 (s : Sp) : idx (lisD (enc s)) (.int 0) = some (.str s.nm) := by
  simp only [enc, lisD, lisDs]
  exact idxL0 _ _
theorem ris_snoc {L : List Sp} {z : Sp} (h : risB (L.map Sp.nm) = true) (hz : ∀ s ∈ L, strLt s.nm z.nm = true) : risB ((L ++ [z]).map Sp.nm) = true := by
  rw [List.map_append, ris_pair, List.pairwise_append]
  refine ⟨ris_pair.mp h, by simp, fun a ha b hb => ?_⟩
  obtain ⟨s, hs, rfl⟩ := List.mem_map.mp ha
  simp at hb
  subst hb
  exact hz s hs
theorem sp_with {P : List Sp} (hP : W1 P) (wf n : Nat) (hn : 7 ≤ n) {y : PyData} {z : Sp} (hy : y = enc z) (m : Mem) :
    run T wf n 18 [.d (softP P), .d y] m = if z.nm ∈ P.map Sp.nm then .exc ⟨1, [.str z.nm]⟩ m else (if ∀ s ∈ P, strLt s.nm z.nm = true then .ok (.d (encP (P ++ [z]))) m else run T wf n 18 [.d (softP P), .d y] m) := by
  obtain ⟨n, rfl⟩ : ∃ k, n = k + 1 := ⟨n - 1, by omega⟩
  have hl := hP.len
  have hin : cmp .isin (.str z.nm) (.list ((P.map Sp.nm).map PyData.str)) = some (decide (z.nm ∈ P.map Sp.nm)) := cmp_inL _ _
  have hlc : ∀ (call : Call) (e2 : Option Val), lcLoop (.nm 2) (sems call []) (sem call (.idx (.var 2) (.cst (.int 0)))) [] [some (.d (softP P)), some (.d y), none] (P.map fun s => lisD (enc s)) m = .ok ((P.map Sp.nm).map PyData.str) m := fun call e2 => by
    rw [lcLoop_ofm (fun s => lisD (enc s)) (fun s => .str s.nm) rfl]
    · simp
    · intro s hs
      simp [soft0]
  have hy0 : idx y (.int 0) = some (.str z.nm) := by rw [hy]; exact e0 z
  split
  · rename_i h1
    rw [run_succ d_with_step.fnT rfl rfl (by decide)]
    simp only [d_with_step, Df.fnT, b_with_step]
    simp [hy0, soft_list]
    have := hlc (run T wf n) none
    rw [soft_list] at this
    rw [this]
    simp only [Res.bind_ok, M.nf_fr, M.rdR_d, hin]
    simp at h1
    simp [h1]
  · rename_i h1
    split
    · rename_i h2
      rw [run_succ d_with_step.fnT rfl rfl (by decide)]
      simp only [d_with_step, Df.fnT, b_with_step]
      simp [hy0]
      have hw : walk .seq [softP P] = some (P.map fun s => lisD (enc s)) := by rw [soft_list]; rfl
      rw [hw]
      simp only [optR_some, Res.bind_ok]
      rw [hlc (run T wf n) none]
      have hin' : cmp .isin (.str z.nm) (.list ((P.map Sp.nm).map PyData.str)) = some false := by rw [hin, decide_eq_false h1]
      simp only [Res.bind_ok, M.nf_fr, M.rdR_d, hin']
      have hty : run T wf n 2 [.d y] m = .ok (.d (enc z)) m := by
        rw [hy, sp_tupled wf n _ m (by have := depth_enc z; omega), tup_enc]
      have hr := (show Rd (softP P) P from rdS P).run wf n (by omega) m
      have hs := sp_setP wf n (by omega) (ris_snoc hP.ris h2) (by simp; omega) m
      have hl2 : P.length + 1 ≤ lim := by simp [lim]; omega
      simp [hr, hty, encP, hl2]
      rw [← List.map_singleton (f := enc), ← List.map_append, hs]
      simp [encP]
    · rfl
end Ra.K3


set_option Elab.async false
set_option linter.all false
set_option maxRecDepth 100000
set_option maxHeartbeats 800000
namespace Ra.K3
open PySem M _root_.K1
theorem xTry_exc {b : EX} {hs : List Hd} {env : Env} {m m1 : Mem} {x : Exn} (h : b env m = .exc x m1) : xTry b hs env m = hdsX hs x env m1 := by
  unfold xTry
  rw [h]
theorem xTry_ok {b : EX} {hs : List Hd} {env : Env} {m m1 : Mem} {f : Flow} (h : b env m = .ok f m1) : xTry b hs env m = .ok f m1 := by
  unfold xTry
  rw [h]
theorem tb_iff (call : Call) (c : E) (a b : TB) (env : Env) (m : Mem) : tbX call (.iff c a b) env m = ((sem call c).t env m).noX.bind fun t m1 => if t = true then tbX call a env m1 else tbX call b env m1 := rfl
theorem tb_set (call : Call) (i : Nat) (c : Bool) (e : XE) (env : Env) (m : Mem) : tbX call (.set i c e) env m = (xv call e env m).bind fun v m1 => (stored c v m1).bind fun v' m2 => setIn env i v' m2 := rfl
def bareD : PyData := .list [.str "none", .str "zz", .bool true, .bool false]
theorem no_zz {P : List Sp} (hP : W1 P) : P.filter (fun s => decide (s.nm = ("zz" : Str))) = [] := by
  rw [List.filter_eq_nil_iff]
  intro s hs
  have := strLt_ne (hP.zz s hs)
  simpa using this
theorem sp_heard0 {P : List Sp} (hP : W1 P) (wf n : Nat) (hn : 8 ≤ n) (m : Mem) : run T wf n 29 [.d (.int 0), .d (softP P), .d (.str "zz")] m = .ok (.d bareD) m := by
  obtain ⟨n, rfl⟩ : ∃ k, n = k + 1 := ⟨n - 1, by omega⟩
  rw [run_succ d__law_heard.fnT rfl rfl (by decide)]
  have h := sp_stepof (rdS P) wf n (by omega) "zz" m
  rw [no_zz hP] at h
  have h' : run T wf n 10 [.d (softP P), .d (.str "zz")] m = .exc ⟨0, [.str "zz"]⟩ m := h
  simp [d__law_heard, Df.fnT, b__law_heard]
  rw [xTry_exc (x := ⟨0, [.str "zz"]⟩) (m1 := m) (by simp [tb_iff, tb_set, h'])]
  simp [hdsX, hisV, hiV, isNone, bareD, setV]
theorem sp_heard1 {P : List Sp} (hP : W1 P) (wf n : Nat) (hn : 9 ≤ n) (m : Mem) : run T wf n 29 [.d (.int 1), .d (softP P), .d (.str "zz")] m = .ok (.d bareD) m := by
  obtain ⟨n, rfl⟩ : ∃ k, n = k + 1 := ⟨n - 1, by omega⟩
  rw [run_succ d__law_heard.fnT rfl rfl (by decide)]
  have h := sp_without (rdS P) wf n (by omega) "zz" m
  rw [no_zz hP] at h
  have h' : run T wf n 19 [.d (softP P), .d (.str "zz")] m = .exc ⟨0, [.str "zz"]⟩ m := h
  simp [d__law_heard, Df.fnT, b__law_heard]
  rw [xTry_exc (x := ⟨0, [.str "zz"]⟩) (m1 := m) (by simp [tb_iff, tb_set, h'])]
  simp [hdsX, hisV, hiV, isNone, bareD, setV]
theorem sp_heard2 {P : List Sp} (hP : W1 P) (wf n : Nat) (hn : 9 ≤ n) {s : Sp} (hs : s ∈ P) (m : Mem) : run T wf n 29 [.d (.int 2), .d (softP P), .d (enc ⟨s.nm, "m", [], "x", []⟩)] m = .ok (.d (.list [.str "twice", .str s.nm, .bool true])) m := by
  obtain ⟨n, rfl⟩ : ∃ k, n = k + 1 := ⟨n - 1, by omega⟩
  rw [run_succ d__law_heard.fnT rfl rfl (by decide)]
  have h := sp_with hP wf n (by omega) (z := ⟨s.nm, "m", [], "x", []⟩) rfl m
  rw [if_pos (List.mem_map_of_mem hs)] at h
  simp [d__law_heard, Df.fnT, b__law_heard]
  rw [xTry_exc (x := ⟨1, [.str s.nm]⟩) (m1 := m) (by simp [tb_iff, tb_set, h])]
  simp [hdsX, hisV, hiV, isNone, setV]
theorem cmp_neB' (a b : Bool) : cmp .ne (.bool a) (.bool b) = some (!(a == b)) := cmp_neB a b
theorem sp_lholds (wf n : Nat) (hn : 1 ≤ n) (cd : List (Str × Int)) (V : List Str) (m : Mem) : run T wf n 30 [.d (encC cd), .d (encV V)] m = .ok (.d (.bool (holdB cd V))) m := by
  obtain ⟨n, rfl⟩ : ∃ k, n = k + 1 := ⟨n - 1, by omega⟩
  rw [run_succ d__law_holds.fnT rfl rfl (by decide)]
  simp [d__law_holds, Df.fnT, b__law_holds, encC, encV]
  rw [lcLoop_of _ (fun p : Str × Int => !(decide (p.1 ∈ V) == (p.2 == 1))) (fun p => PyData.tuple [.str p.1, .int p.2]) rfl]
  · simp only [Res.bind_ok, M.nf_fr, M.rdR_d, M.cmp_eqNil, emp_map, emp_filter, optR_some]
    simp [allB_eq, holdB]
  · intro p hp
    simp [idx0, idx1, cmp_neB']
theorem sp_llive (wf n : Nat) (hn : 2 ≤ n) (P : List Sp) (V : List Str) (env : Env) (m : Mem) (hn1 : 1 < env.length) (h6 : getV (env.set 1 none) 6 = some (.d (encV V))) :
    lcLoop (.nm 1) (sems (run T wf n) [(.call 30 [(.idx (.var 1) (.cst (.int 4))), (.var 6)])]) (sem (run T wf n) (.var 1)) [] (env.set 1 none) (P.map enc) m = .ok ((live V P).map enc) m := by
  rw [lcLoop_of enc (fun s => holdB s.cd V) enc rfl]
  · rfl
  · intro s hs
    refine ⟨setV (env.set 1 none) 1 (.d (enc s)), by simp [hn1], ?_⟩
    have a1 : getV (setV (env.set 1 none) 1 (.d (enc s))) 1 = some (.d (enc s)) := by
      unfold getV setV
      rw [List.getElem?_set_self (by simpa using hn1)]
      rfl
    have a6 : getV (setV (env.set 1 none) 1 (.d (enc s))) 6 = some (.d (encV V)) := by
      unfold getV setV at *
      rw [List.getElem?_set_ne (by decide)]
      exact h6
    simp [a1, a6, e4, sp_lholds wf n (by omega)]
end Ra.K3


set_option Elab.async false
set_option linter.all false
set_option maxRecDepth 100000
set_option maxHeartbeats 1600000
namespace Ra.K3
open PySem M _root_.K1
theorem listD_encV (V : List Str) : listD [encV V] = some (.fr (V.map PyData.str)) := rfl
/-- got and due, both G -/
theorem set_got (call : Call) (wf : Nat) {env : Env} {m : Mem} {es : List E} {G xs : List PyData} {j : Nat} (h4 : getV env 4 = some (.mr j)) (hl : 4 < env.length) (hm : m[j]? = some ⟨false, G⟩) (hx : cItems (sems call es) env m = .ok xs m) (hz : G.length + xs.length ≤ 1000000) :
    exS call wf (.set 4 true (.op .add (.var 4) (.lst es))) env m = .ok (.next (setV env 4 (.mr m.length))) (m ++ [⟨false, G ++ xs⟩]) := by
  have hr : rdR m (.mr j) = .ok (.list G) m := rdR_mr m hm
  simp only [M.x_set, M.v_op, M.v_var, h4, optR_some, Res.bind_ok, M.v_lst, hx, M.nf_mr, M.nf_fr, hr, M.rdR_d, addL _ _ hz, Res.noX_ok, M.stored_t, M.mkCell_fr, M.setIn_eq, hl, if_true]
theorem app_got (call : Call) (wf : Nat) {env : Env} {m : Mem} {e : E} {G : List PyData} {x : PyData} {v : Val} {j : Nat} (h4 : getV env 4 = some (.mr j)) (hm : m[j]? = some ⟨false, G⟩) (hv : (sem call e).v env m = .ok v m) (hf : frz v m = .ok x m) (hz : G.length < 1000000) :
    exS call wf (.app 4 e) env m = .ok (.next env) (m.set j ⟨false, G ++ [x]⟩) := by
  simp only [M.x_app, hv, Res.noX_ok, Res.bind_ok, hf]
  rw [onCell_mr (h := h4), upCell_mr (h := h4) (hm := hm) (ys := G ++ [x]) (hf := by rw [if_pos (by simp [lim]; omega)])]
theorem set_due (call : Call) (wf : Nat) {env : Env} {m : Mem} {es : List E} {G xs : List PyData} (h5 : getV env 5 = some (.d (.list G))) (hl : 5 < env.length) (hx : cItems (sems call es) env m = .ok xs m) (hz : G.length + xs.length ≤ 1000000) :
    exS call wf (.set 5 false (.op .add (.var 5) (.lst es))) env m = .ok (.next (setV env 5 (.d (.list (G ++ xs))))) m := by
  simp only [M.x_set, M.v_op, M.v_var, h5, optR_some, Res.bind_ok, M.v_lst, hx, M.nf_d, M.nf_fr, M.rdR_d, addL _ _ hz, Res.noX_ok, M.stored_f, M.setIn_eq, hl, if_true]
def mksP (P L : List Sp) : List PyData := (setS (pagesL P)).map fun page => frst (L.filter fun s => decide (s.sh = page))
def rowV (P : List Sp) (V : List Str) : List PyData := [encP (live V P), .list ((setS (madeL (live V P))).map PyData.str), .list ((setS (needL (madeL (live V P)) (live V P))).map PyData.str), .list (mksP P (live V P)), .list (P.map fun s => .bool (holdB s.cd V))]
theorem mem_live {P : List Sp} {V : List Str} {s : Sp} (hs : s ∈ P) : decide (s ∈ live V P) = holdB s.cd V := by
  unfold live
  cases h : holdB s.cd V with
  | true => exact decide_eq_true (List.mem_filter.mpr ⟨hs, h⟩)
  | false => exact decide_eq_false fun z => by rw [(List.mem_filter.mp z).2] at h; cases h
def vB : List S := match b__law_case_right with
  | [_, _, _, _, _, _, .for _ _ _ b, _, _, _, _, _, _, _] => b
  | _ => []
theorem cmp_neNil' (xs : List PyData) : cmp .ne (.list xs) (.list []) = some (!emp xs) := cmp_neNil xs
theorem row_step {P : List Sp} (hP : W1 P) (wf n : Nat) (hn : 9 ≤ n) (V : List Str) {m : Mem} {j : Nat} {G : List PyData} (hm : m[j]? = some ⟨false, G⟩) (hz : G.length ≤ 900000) (e1 e3 e7 e8 e12 e13 e14 e15 e16 e17 e18 : Option Val) (ev fl : PyData) :
    ∃ (f1 f12 f13 f14 f15 : Option Val) (m' : Mem) (j' : Nat), exB (run T wf n) wf vB [some (.d (encP P)), e1, some (.d ev), e3, some (.mr j), some (.d (.list G)), some (.d (encV V)), e7, e8, some (.d (softP P)), some (.d fl), some (.d (.list ((pagesL P).map PyData.str))), e12, e13, e14, e15, e16, e17, e18] m =
      .ok (.next [some (.d (encP P)), f1, some (.d ev), e3, some (.mr j'), some (.d (.list (G ++ rowV P V))), some (.d (encV V)), e7, e8, some (.d (softP P)), some (.d fl), some (.d (.list ((pagesL P).map PyData.str))), f12, f13, f14, f15, e16, e17, e18]) m' ∧
      m'[j']? = some ⟨false, G ++ rowV P V⟩ ∧ m.length ≤ j' ∧ m.length ≤ m'.length ∧ ∀ k, k < m.length → k ≠ j → m'[k]? = m[k]? := by
  have hl := hP.len
  have hL := (live_sub V P).length_le
  have hrl : ∀ s ∈ live V P, s.rd.length ≤ 8 := fun s hs => hP.rl s ((live_sub V P).subset hs)
  have hpl := hP.pages_len
  have hnl := need_len (madeL (live V P)) hrl (by omega)
  have hv : Vr (encV V) V := .inl rfl
  have hvl : Vr (.list (V.map PyData.str)) V := .inr rfl
  have hpg := sset_L (pagesL P) (by omega)
  have s1 : exS (run T wf n) wf (.set 12 false (.lc [1] (.nm 1) .seq [(.var 0)] [(.call 30 [(.idx (.var 1) (.cst (.int 4))), (.var 6)])] (.var 1))) [some (.d (encP P)), e1, some (.d ev), e3, some (.mr j), some (.d (.list G)), some (.d (encV V)), e7, e8, some (.d (softP P)), some (.d fl), some (.d (.list ((pagesL P).map PyData.str))), e12, e13, e14, e15, e16, e17, e18] m = .ok (.next [some (.d (encP P)), e1, some (.d ev), e3, some (.mr j), some (.d (.list G)), some (.d (encV V)), e7, e8, some (.d (softP P)), some (.d fl), some (.d (.list ((pagesL P).map PyData.str))), some (.d (.list ((live V P).map enc))), e13, e14, e15, e16, e17, e18]) m := by
    have h := sp_llive wf n (by omega) P V [some (.d (encP P)), e1, some (.d ev), e3, some (.mr j), some (.d (.list G)), some (.d (encV V)), e7, e8, some (.d (softP P)), some (.d fl), some (.d (.list ((pagesL P).map PyData.str))), e12, e13, e14, e15, e16, e17, e18] m (by simp) (by simp)
    simp only [List.set] at h
    simp
    rw [h]
    simp
  have s2 : exS (run T wf n) wf (.par [(14, false), (15, false)] [(.lc [1] (.nm 1) .seq [(.var 12)] [] (.idx (.var 1) (.cst (.int 3)))), (.lst [])]) [some (.d (encP P)), e1, some (.d ev), e3, some (.mr j), some (.d (.list G)), some (.d (encV V)), e7, e8, some (.d (softP P)), some (.d fl), some (.d (.list ((pagesL P).map PyData.str))), some (.d (.list ((live V P).map enc))), e13, e14, e15, e16, e17, e18] m = .ok (.next [some (.d (encP P)), e1, some (.d ev), e3, some (.mr j), some (.d (.list G)), some (.d (encV V)), e7, e8, some (.d (softP P)), some (.d fl), some (.d (.list ((pagesL P).map PyData.str))), some (.d (.list ((live V P).map enc))), e13, some (.d (.list ((madeL (live V P)).map PyData.str))), some (.d (.list [])), e16, e17, e18]) m := by
    simp
    rw [lcLoop_ofm enc (fun s => .str s.sh) rfl]
    · simp [madeL]
    · intro s hs
      simp [Ra.K3.e3]
  have s3 : ∃ f1, exS (run T wf n) wf (.for (.nm 1) .seq [(.var 12)] [(.set 15 false (.op .add (.var 15) (.lc [16] (.nm 16) .seq [(.idx (.var 1) (.cst (.int 2)))] [(.cmp .notin (.var 16) (.var 14))] (.var 16))))]) [some (.d (encP P)), e1, some (.d ev), e3, some (.mr j), some (.d (.list G)), some (.d (encV V)), e7, e8, some (.d (softP P)), some (.d fl), some (.d (.list ((pagesL P).map PyData.str))), some (.d (.list ((live V P).map enc))), e13, some (.d (.list ((madeL (live V P)).map PyData.str))), some (.d (.list [])), e16, e17, e18] m = .ok (.next [some (.d (encP P)), f1, some (.d ev), e3, some (.mr j), some (.d (.list G)), some (.d (encV V)), e7, e8, some (.d (softP P)), some (.d fl), some (.d (.list ((pagesL P).map PyData.str))), some (.d (.list ((live V P).map enc))), e13, some (.d (.list ((madeL (live V P)).map PyData.str))), some (.d (.list ((needL (madeL (live V P)) (live V P)).map PyData.str))), e16, e17, e18]) m := by
    obtain ⟨env', h1, e1', h2, h3⟩ := forLoop_st (t := .nm 1) (gs := []) (m := m) (body := exB (run T wf n) wf [(.set 15 false (.op .add (.var 15) (.lc [16] (.nm 16) .seq [(.idx (.var 1) (.cst (.int 2)))] [(.cmp .notin (.var 16) (.var 14))] (.var 16))))]) enc
      (fun i (ks : List Str) env => ∃ e1, env = [some (.d (encP P)), e1, some (.d ev), e3, some (.mr j), some (.d (.list G)), some (.d (encV V)), e7, e8, some (.d (softP P)), some (.d fl), some (.d (.list ((pagesL P).map PyData.str))), some (.d (.list ((live V P).map enc))), e13, some (.d (.list ((madeL (live V P)).map PyData.str))), some (.d (.list (ks.map PyData.str))), e16, e17, e18] ∧ ks.length ≤ 8 * i) (fun ks s => ks ++ s.rd.filter fun r => !decide (r ∈ madeL (live V P))) rfl (xs := live V P) (s := []) (env := [some (.d (encP P)), e1, some (.d ev), e3, some (.mr j), some (.d (.list G)), some (.d (encV V)), e7, e8, some (.d (softP P)), some (.d fl), some (.d (.list ((pagesL P).map PyData.str))), some (.d (.list ((live V P).map enc))), e13, some (.d (.list ((madeL (live V P)).map PyData.str))), some (.d (.list [])), e16, e17, e18]) 0 (by
        rintro i s hs ks env ⟨e1, rfl, hk⟩
        have hi : i < 8 := by
          have := (List.getElem?_eq_some_iff.mp hs).1
          omega
        have hr := hrl s (List.mem_of_getElem? hs)
        have hf := List.length_filter_le (fun r => !decide (r ∈ madeL (live V P))) s.rd
        rw [Nat.zero_add] at hk
        refine ⟨[some (.d (encP P)), some (.d (enc s)), some (.d ev), e3, some (.mr j), some (.d (.list G)), some (.d (encV V)), e7, e8, some (.d (softP P)), some (.d fl), some (.d (.list ((pagesL P).map PyData.str))), some (.d (.list ((live V P).map enc))), e13, some (.d (.list ((madeL (live V P)).map PyData.str))), some (.d (.list (ks.map PyData.str))), e16, e17, e18], [some (.d (encP P)), some (.d (enc s)), some (.d ev), e3, some (.mr j), some (.d (.list G)), some (.d (encV V)), e7, e8, some (.d (softP P)), some (.d fl), some (.d (.list ((pagesL P).map PyData.str))), some (.d (.list ((live V P).map enc))), e13, some (.d (.list ((madeL (live V P)).map PyData.str))), some (.d (.list ((ks ++ s.rd.filter fun r => !decide (r ∈ madeL (live V P))).map PyData.str))), e16, e17, e18], by simp, ?_, _, rfl, ?_⟩
        · simp [Ra.K3.e2]
          rw [lcLoop_of PyData.str (fun r => !decide (r ∈ madeL (live V P))) PyData.str rfl]
          · simp
            rw [addL _ _ (by simp; omega)]
            simp
          · intro r hr
            simp
        · rw [List.length_append, Nat.zero_add]
          omega) ⟨e1, rfl, by simp⟩
    have hfold : ∀ (L : List Sp) (ks : List Str), L.foldl (fun ks s => ks ++ s.rd.filter fun r => !decide (r ∈ madeL (live V P))) ks = ks ++ needL (madeL (live V P)) L := by
      intro L
      induction L with
      | nil => intro ks; simp [needL]
      | cons s L ih => intro ks; rw [List.foldl_cons, ih]; simp [needL]
    rw [hfold, List.nil_append] at h2
    subst h2
    refine ⟨e1', ?_⟩
    simp
    exact h1
  obtain ⟨f1, s3⟩ := s3
  have s4 : exS (run T wf n) wf (.set 4 true (.op .add (.var 4) (.lst [(.call 9 [(.var 9), (.var 6)]), (.bi .list [(.call 15 [(.var 9), (.var 6)])])]))) [some (.d (encP P)), f1, some (.d ev), e3, some (.mr j), some (.d (.list G)), some (.d (encV V)), e7, e8, some (.d (softP P)), some (.d fl), some (.d (.list ((pagesL P).map PyData.str))), some (.d (.list ((live V P).map enc))), e13, some (.d (.list ((madeL (live V P)).map PyData.str))), some (.d (.list ((needL (madeL (live V P)) (live V P)).map PyData.str))), e16, e17, e18] m = .ok (.next [some (.d (encP P)), f1, some (.d ev), e3, some (.mr m.length), some (.d (.list G)), some (.d (encV V)), e7, e8, some (.d (softP P)), some (.d fl), some (.d (.list ((pagesL P).map PyData.str))), some (.d (.list ((live V P).map enc))), e13, some (.d (.list ((madeL (live V P)).map PyData.str))), some (.d (.list ((needL (madeL (live V P)) (live V P)).map PyData.str))), e16, e17, e18]) (m ++ [⟨false, G ++ [encP (live V P), .list ((setS (madeL (live V P))).map PyData.str)]⟩]) := by
    rw [set_got (h4 := by simp) (hl := by simp) (hm := hm) (xs := [encP (live V P), .list ((setS (madeL (live V P))).map PyData.str)]) (hx := by
      have z := sp_runG (rdS P) wf n (by omega) hv m
      have z2 := sp_made (rdS P) hP wf n (by omega) hv m
      simp [show run T wf n 9 [.d (softP P), .d (encV V)] m = _ from z, show run T wf n 15 [.d (softP P), .d (encV V)] m = _ from z2, listD_encV]) (hz := by simp; omega)]
    simp
  have m1 : ∀ x : List PyData, (m ++ [⟨false, x⟩])[m.length]? = some (⟨false, x⟩ : Cell) := fun x => at_new m _ []
  have s5 : exS (run T wf n) wf (.app 4 (.bi .list [(.call 16 [(.var 9), (.bi .list [(.var 6)])])])) [some (.d (encP P)), f1, some (.d ev), e3, some (.mr m.length), some (.d (.list G)), some (.d (encV V)), e7, e8, some (.d (softP P)), some (.d fl), some (.d (.list ((pagesL P).map PyData.str))), some (.d (.list ((live V P).map enc))), e13, some (.d (.list ((madeL (live V P)).map PyData.str))), some (.d (.list ((needL (madeL (live V P)) (live V P)).map PyData.str))), e16, e17, e18] (m ++ [⟨false, G ++ [encP (live V P), .list ((setS (madeL (live V P))).map PyData.str)]⟩]) = .ok (.next [some (.d (encP P)), f1, some (.d ev), e3, some (.mr m.length), some (.d (.list G)), some (.d (encV V)), e7, e8, some (.d (softP P)), some (.d fl), some (.d (.list ((pagesL P).map PyData.str))), some (.d (.list ((live V P).map enc))), e13, some (.d (.list ((madeL (live V P)).map PyData.str))), some (.d (.list ((needL (madeL (live V P)) (live V P)).map PyData.str))), e16, e17, e18]) (m ++ [⟨false, G ++ [encP (live V P), .list ((setS (madeL (live V P))).map PyData.str)] ++ [.list ((setS (needL (madeL (live V P)) (live V P))).map PyData.str)]⟩]) := by
    have z := sp_needed (rdS P) hP wf n (by omega) hvl (m ++ [⟨false, G ++ [encP (live V P), .list ((setS (madeL (live V P))).map PyData.str)]⟩])
    rw [app_got (h4 := by simp) (hm := m1 _) (v := .fr ((setS (needL (madeL (live V P)) (live V P))).map PyData.str)) (x := .list ((setS (needL (madeL (live V P)) (live V P))).map PyData.str)) (hv := by simp [listD_encV, show run T wf n 16 [.d (softP P), .d (.list (V.map PyData.str))] _ = _ from z]) (hf := by simp) (hz := by simp; omega), set_new]
  have hma := sset_L (madeL (live V P)) (by simp [madeL]; omega)
  have hne := sset_L (needL (madeL (live V P)) (live V P)) (by omega)
  have s6 : ∀ mm, exS (run T wf n) wf (.set 5 false (.op .add (.var 5) (.lst [(.bi .tuple [(.var 12)]), (.bi .sortedset [(.var 14)]), (.bi .sortedset [(.var 15)])]))) [some (.d (encP P)), f1, some (.d ev), e3, some (.mr m.length), some (.d (.list G)), some (.d (encV V)), e7, e8, some (.d (softP P)), some (.d fl), some (.d (.list ((pagesL P).map PyData.str))), some (.d (.list ((live V P).map enc))), e13, some (.d (.list ((madeL (live V P)).map PyData.str))), some (.d (.list ((needL (madeL (live V P)) (live V P)).map PyData.str))), e16, e17, e18] mm = .ok (.next [some (.d (encP P)), f1, some (.d ev), e3, some (.mr m.length), some (.d (.list (G ++ ([encP (live V P), .list ((setS (madeL (live V P))).map PyData.str)] ++ [.list ((setS (needL (madeL (live V P)) (live V P))).map PyData.str)])))), some (.d (encV V)), e7, e8, some (.d (softP P)), some (.d fl), some (.d (.list ((pagesL P).map PyData.str))), some (.d (.list ((live V P).map enc))), e13, some (.d (.list ((madeL (live V P)).map PyData.str))), some (.d (.list ((needL (madeL (live V P)) (live V P)).map PyData.str))), e16, e17, e18]) mm := fun mm => by
    rw [set_due (G := G) (h5 := by simp) (hl := by simp) (xs := [encP (live V P), .list ((setS (madeL (live V P))).map PyData.str)] ++ [.list ((setS (needL (madeL (live V P)) (live V P))).map PyData.str)]) (hx := by simp [hma, hne, encP]) (hz := by simp; omega)]
    simp
  have s7 : exS (run T wf n) wf (.app 4 (.lc [16] (.nm 16) .seq [(.bi .sortedset [(.var 11)])] [] (.call 17 [(.var 9), (.var 6), (.var 16)]))) [some (.d (encP P)), f1, some (.d ev), e3, some (.mr m.length), some (.d (.list (G ++ ([encP (live V P), .list ((setS (madeL (live V P))).map PyData.str)] ++ [.list ((setS (needL (madeL (live V P)) (live V P))).map PyData.str)])))), some (.d (encV V)), e7, e8, some (.d (softP P)), some (.d fl), some (.d (.list ((pagesL P).map PyData.str))), some (.d (.list ((live V P).map enc))), e13, some (.d (.list ((madeL (live V P)).map PyData.str))), some (.d (.list ((needL (madeL (live V P)) (live V P)).map PyData.str))), e16, e17, e18] (m ++ [⟨false, G ++ [encP (live V P), .list ((setS (madeL (live V P))).map PyData.str)] ++ [.list ((setS (needL (madeL (live V P)) (live V P))).map PyData.str)]⟩]) = .ok (.next [some (.d (encP P)), f1, some (.d ev), e3, some (.mr m.length), some (.d (.list (G ++ ([encP (live V P), .list ((setS (madeL (live V P))).map PyData.str)] ++ [.list ((setS (needL (madeL (live V P)) (live V P))).map PyData.str)])))), some (.d (encV V)), e7, e8, some (.d (softP P)), some (.d fl), some (.d (.list ((pagesL P).map PyData.str))), some (.d (.list ((live V P).map enc))), e13, some (.d (.list ((madeL (live V P)).map PyData.str))), some (.d (.list ((needL (madeL (live V P)) (live V P)).map PyData.str))), e16, e17, e18]) (m ++ [⟨false, G ++ [encP (live V P), .list ((setS (madeL (live V P))).map PyData.str)] ++ [.list ((setS (needL (madeL (live V P)) (live V P))).map PyData.str)] ++ [.list (mksP P (live V P))]⟩]) := by
    rw [app_got (h4 := by simp) (hm := m1 _) (v := .fr (mksP P (live V P))) (x := .list (mksP P (live V P))) (hv := by
      simp [hpg]
      rw [lcLoop_ofm PyData.str (fun page => frst ((live V P).filter fun s => decide (s.sh = page))) rfl]
      · simp [mksP]
      · intro page hp
        have z := sp_maker (rdS P) wf n (by omega) hv page (m ++ [⟨false, G ++ [encP (live V P), .list ((setS (madeL (live V P))).map PyData.str)] ++ [.list ((setS (needL (madeL (live V P)) (live V P))).map PyData.str)]⟩])
        simp at z
        simp [show run T wf n 17 [.d (softP P), .d (encV V), .d (.str page)] _ = _ from z]) (hf := by simp) (hz := by simp; omega), set_new]
  have s8 : exS (run T wf n) wf (.app 4 (.lc [1] (.nm 1) .seq [(.var 0)] [] (.call 8 [(.idx (.var 1) (.cst (.int 4))), (.var 6)]))) [some (.d (encP P)), f1, some (.d ev), e3, some (.mr m.length), some (.d (.list (G ++ ([encP (live V P), .list ((setS (madeL (live V P))).map PyData.str)] ++ [.list ((setS (needL (madeL (live V P)) (live V P))).map PyData.str)])))), some (.d (encV V)), e7, e8, some (.d (softP P)), some (.d fl), some (.d (.list ((pagesL P).map PyData.str))), some (.d (.list ((live V P).map enc))), e13, some (.d (.list ((madeL (live V P)).map PyData.str))), some (.d (.list ((needL (madeL (live V P)) (live V P)).map PyData.str))), e16, e17, e18] (m ++ [⟨false, G ++ [encP (live V P), .list ((setS (madeL (live V P))).map PyData.str)] ++ [.list ((setS (needL (madeL (live V P)) (live V P))).map PyData.str)] ++ [.list (mksP P (live V P))]⟩]) = .ok (.next [some (.d (encP P)), f1, some (.d ev), e3, some (.mr m.length), some (.d (.list (G ++ ([encP (live V P), .list ((setS (madeL (live V P))).map PyData.str)] ++ [.list ((setS (needL (madeL (live V P)) (live V P))).map PyData.str)])))), some (.d (encV V)), e7, e8, some (.d (softP P)), some (.d fl), some (.d (.list ((pagesL P).map PyData.str))), some (.d (.list ((live V P).map enc))), e13, some (.d (.list ((madeL (live V P)).map PyData.str))), some (.d (.list ((needL (madeL (live V P)) (live V P)).map PyData.str))), e16, e17, e18]) (m ++ [⟨false, G ++ [encP (live V P), .list ((setS (madeL (live V P))).map PyData.str)] ++ [.list ((setS (needL (madeL (live V P)) (live V P))).map PyData.str)] ++ [.list (mksP P (live V P))] ++ [.list (P.map fun s => .bool (holdB s.cd V))]⟩]) := by
    rw [app_got (h4 := by simp) (hm := m1 _) (v := .fr (P.map fun s => .bool (holdB s.cd V))) (x := .list (P.map fun s => .bool (holdB s.cd V))) (hv := by
      simp
      rw [lcLoop_ofm enc (fun s => .bool (holdB s.cd V)) rfl]
      · simp
      · intro s hs
        simp [Ra.K3.e4, sp_holdsG wf n (by omega) _ hv]) (hf := by simp) (hz := by simp; omega), set_new]
  have s9 : ∀ mm, exS (run T wf n) wf (.set 13 false (.lc [16] (.nm 16) .seq [(.bi .sortedset [(.var 11)])] [] (.lc [1] (.nm 1) .seq [(.var 12)] [(.cmp .eq (.idx (.var 1) (.cst (.int 3))) (.var 16))] (.var 1)))) [some (.d (encP P)), f1, some (.d ev), e3, some (.mr m.length), some (.d (.list (G ++ ([encP (live V P), .list ((setS (madeL (live V P))).map PyData.str)] ++ [.list ((setS (needL (madeL (live V P)) (live V P))).map PyData.str)])))), some (.d (encV V)), e7, e8, some (.d (softP P)), some (.d fl), some (.d (.list ((pagesL P).map PyData.str))), some (.d (.list ((live V P).map enc))), e13, some (.d (.list ((madeL (live V P)).map PyData.str))), some (.d (.list ((needL (madeL (live V P)) (live V P)).map PyData.str))), e16, e17, e18] mm = .ok (.next [some (.d (encP P)), f1, some (.d ev), e3, some (.mr m.length), some (.d (.list (G ++ ([encP (live V P), .list ((setS (madeL (live V P))).map PyData.str)] ++ [.list ((setS (needL (madeL (live V P)) (live V P))).map PyData.str)])))), some (.d (encV V)), e7, e8, some (.d (softP P)), some (.d fl), some (.d (.list ((pagesL P).map PyData.str))), some (.d (.list ((live V P).map enc))), some (.d (.list ((setS (pagesL P)).map fun page => .list (((live V P).filter fun s => decide (s.sh = page)).map enc)))), some (.d (.list ((madeL (live V P)).map PyData.str))), some (.d (.list ((needL (madeL (live V P)) (live V P)).map PyData.str))), e16, e17, e18]) mm := fun mm => by
    simp [hpg]
    rw [lcLoop_ofm PyData.str (fun page => .list (((live V P).filter fun s => decide (s.sh = page)).map enc)) rfl]
    · simp
    · intro page hp
      simp
      rw [lcLoop_of enc (fun s => decide (s.sh = page)) enc rfl]
      · simp
      · intro s hs
        simp [Ra.K3.e3, cmp_eqS]
  have s10 : ∀ mm, exS (run T wf n) wf (.set 5 false (.op .add (.var 5) (.lst [(.lc [1] (.nm 1) .seq [(.var 13)] [] (.ite (.cmp .ne (.var 1) (.lst [])) (.idx (.var 1) (.cst (.int 0))) (.cst .none))), (.lc [1] (.nm 1) .seq [(.var 0)] [] (.cmp .isin (.var 1) (.var 12)))]))) [some (.d (encP P)), f1, some (.d ev), e3, some (.mr m.length), some (.d (.list (G ++ ([encP (live V P), .list ((setS (madeL (live V P))).map PyData.str)] ++ [.list ((setS (needL (madeL (live V P)) (live V P))).map PyData.str)])))), some (.d (encV V)), e7, e8, some (.d (softP P)), some (.d fl), some (.d (.list ((pagesL P).map PyData.str))), some (.d (.list ((live V P).map enc))), some (.d (.list ((setS (pagesL P)).map fun page => .list (((live V P).filter fun s => decide (s.sh = page)).map enc)))), some (.d (.list ((madeL (live V P)).map PyData.str))), some (.d (.list ((needL (madeL (live V P)) (live V P)).map PyData.str))), e16, e17, e18] mm = .ok (.next [some (.d (encP P)), f1, some (.d ev), e3, some (.mr m.length), some (.d (.list (G ++ rowV P V))), some (.d (encV V)), e7, e8, some (.d (softP P)), some (.d fl), some (.d (.list ((pagesL P).map PyData.str))), some (.d (.list ((live V P).map enc))), some (.d (.list ((setS (pagesL P)).map fun page => .list (((live V P).filter fun s => decide (s.sh = page)).map enc)))), some (.d (.list ((madeL (live V P)).map PyData.str))), some (.d (.list ((needL (madeL (live V P)) (live V P)).map PyData.str))), e16, e17, e18]) mm := fun mm => by
    rw [set_due (G := G ++ ([encP (live V P), .list ((setS (madeL (live V P))).map PyData.str)] ++ [.list ((setS (needL (madeL (live V P)) (live V P))).map PyData.str)])) (h5 := by simp) (hl := by simp) (xs := [.list (mksP P (live V P)), .list (P.map fun s => .bool (holdB s.cd V))]) (hx := by
      simp
      rw [lcLoop_ofm (fun page => PyData.list (((live V P).filter fun s => decide (s.sh = page)).map enc)) (fun page => frst ((live V P).filter fun s => decide (s.sh = page))) rfl]
      · simp
        rw [lcLoop_ofm enc (fun s => .bool (holdB s.cd V)) rfl]
        · simp [mksP]
        · intro s hs
          have z := in_encL s (live V P)
          rw [mem_live hs] at z
          simp [show cmp .isin (enc s) (.list ((live V P).map enc)) = _ from z]
      · intro page hp
        cases h : (live V P).filter fun s => decide (s.sh = page) with
        | nil => simp [frst, emp]
        | cons s r => simp [frst, emp, idxL0]) (hz := by simp; omega)]
    simp [rowV]
  refine ⟨f1, some (.d (.list ((live V P).map enc))), some (.d (.list ((setS (pagesL P)).map fun page => .list (((live V P).filter fun s => decide (s.sh = page)).map enc)))), some (.d (.list ((madeL (live V P)).map PyData.str))), some (.d (.list ((needL (madeL (live V P)) (live V P)).map PyData.str))), m ++ [⟨false, G ++ [encP (live V P), .list ((setS (madeL (live V P))).map PyData.str)] ++ [.list ((setS (needL (madeL (live V P)) (live V P))).map PyData.str)] ++ [.list (mksP P (live V P))] ++ [.list (P.map fun s => .bool (holdB s.cd V))]⟩], m.length, ?_, ?_, Nat.le_refl _, by simp, fun k hk _ => List.getElem?_append_left hk⟩
  · simp only [vB, b__law_case_right]
    simp only [M.exB_cons, s1, s2, s3, s4, s5, s6, s7, s8, s9, s10, Res.bind_ok, M.nextF_next, M.exB_nil]
  · rw [m1]
    simp [rowV]
end Ra.K3


set_option Elab.async false
set_option linter.all false
set_option maxRecDepth 100000
set_option maxHeartbeats 1600000
namespace Ra.K3
open PySem M _root_.K1
def cB (k : Nat) : S := b__law_case_right.getD k .bad
theorem lis_soft (P : List Sp) : (lisV (encP P)).nf = .d (softP P) := by
  simp [lisV, encP, softP, lisD]
theorem cb0 (P : List Sp) (wf n : Nat) (hn : 6 ≤ n) (m : Mem) : exS (run T wf n) wf (cB 0) [some (.d (encP P)), none, none, none, none, none, none, none, none, none, none, none, none, none, none, none, none, none, none] m = .ok (.next [some (.d (encP P)), none, none, none, none, none, none, none, none, some (.d (softP P)), some (.d (.list [])), some (.d (.list [])), none, none, none, none, none, none, none]) m := by
  have h := sp_lists wf n (encP P) m (by have := (rdT P).dep; omega)
  show exS (run T wf n) wf (.par [(9, false), (10, false), (11, false)] [(.call 26 [(.var 0)]), (.lst []), (.lst [])]) _ _ = _
  simp [h, lis_soft]
theorem cb1 (P : List Sp) (hP : W1 P) (wf n : Nat) (m : Mem) : ∃ f1 f17, exS (run T wf n) wf (cB 1) [some (.d (encP P)), none, none, none, none, none, none, none, none, some (.d (softP P)), some (.d (.list [])), some (.d (.list [])), none, none, none, none, none, none, none] m = .ok (.next [some (.d (encP P)), f1, none, none, none, none, none, none, none, some (.d (softP P)), some (.d (.list ((flagsL P).map PyData.str))), some (.d (.list ((pagesL P).map PyData.str))), none, none, none, none, none, f17, none]) m := by
  have hl := hP.len
  obtain ⟨env', h1, a1, a17, h2, h3, h4⟩ := forLoop_st (t := .nm 1) (gs := []) (m := m) (body := exB (run T wf n) wf [(.set 10 false (.op .add (.var 10) (.lc [17] (.nm 17) .seq [(.idx (.var 1) (.cst (.int 4)))] [] (.idx (.var 17) (.cst (.int 0)))))), (.set 11 false (.op .add (.op .add (.var 11) (.bi .list [(.idx (.var 1) (.cst (.int 2)))])) (.lst [(.idx (.var 1) (.cst (.int 3)))])))]) enc
    (fun i (s : List Str × List Str) env => ∃ e1 e17, env = [some (.d (encP P)), e1, none, none, none, none, none, none, none, some (.d (softP P)), some (.d (.list (s.1.map PyData.str))), some (.d (.list (s.2.map PyData.str))), none, none, none, none, none, e17, none] ∧ s.1.length ≤ 8 * i ∧ s.2.length ≤ 9 * i) (fun s x => (s.1 ++ x.cd.map (·.1), s.2 ++ (x.rd ++ [x.sh]))) rfl (xs := P) (s := ([], [])) (env := [some (.d (encP P)), none, none, none, none, none, none, none, none, some (.d (softP P)), some (.d (.list [])), some (.d (.list [])), none, none, none, none, none, none, none]) 0 (by
      rintro i x hx ⟨fl, pg⟩ env ⟨e1, e17, rfl, hk1, hk2⟩
      have hi : i < 8 := by
        have := (List.getElem?_eq_some_iff.mp hx).1
        omega
      have hr := hP.rl x (List.mem_of_getElem? hx)
      have hc := hP.cl x (List.mem_of_getElem? hx)
      rw [Nat.zero_add] at hk1 hk2
      simp only at hk1 hk2
      refine ⟨[some (.d (encP P)), some (.d (enc x)), none, none, none, none, none, none, none, some (.d (softP P)), some (.d (.list (fl.map PyData.str))), some (.d (.list (pg.map PyData.str))), none, none, none, none, none, e17, none], [some (.d (encP P)), some (.d (enc x)), none, none, none, none, none, none, none, some (.d (softP P)), some (.d (.list ((fl ++ x.cd.map (·.1)).map PyData.str))), some (.d (.list ((pg ++ (x.rd ++ [x.sh])).map PyData.str))), none, none, none, none, none, e17, none], by simp, ?_, _, _, rfl, ?_, ?_⟩
      · have hlc : lcLoop (.nm 17) (sems (run T wf n) []) (sem (run T wf n) (.idx (.var 17) (.cst (.int 0)))) [] [some (.d (encP P)), some (.d (enc x)), none, none, none, none, none, none, none, some (.d (softP P)), some (.d (.list (fl.map PyData.str))), some (.d (.list (pg.map PyData.str))), none, none, none, none, none, none, none] (x.cd.map fun p => .tuple [.str p.1, .int p.2]) m = .ok ((x.cd.map (·.1)).map PyData.str) m := by
          rw [lcLoop_ofm (fun p : Str × Int => PyData.tuple [.str p.1, .int p.2]) (fun p => .str p.1) rfl]
          · simp
          · intro p hp
            simp [idx0]
        simp [Ra.K3.e4]
        rw [hlc]
        simp
        rw [addL _ _ (by simp; omega)]
        simp [Ra.K3.e2, Ra.K3.e3]
        rw [addL _ _ (by simp; omega)]
        simp
        rw [addL _ _ (by simp; omega)]
        simp
      · simp; omega
      · simp; omega) ⟨none, none, rfl, by simp, by simp⟩
  have hfold : ∀ (L : List Sp) (a b : List Str), L.foldl (fun (s : List Str × List Str) x => (s.1 ++ x.cd.map (·.1), s.2 ++ (x.rd ++ [x.sh]))) (a, b) = (a ++ flagsL L, b ++ pagesL L) := by
    intro L
    induction L with
    | nil => intro a b; simp [flagsL, pagesL]
    | cons x L ih => intro a b; rw [List.foldl_cons, ih]; simp [flagsL, pagesL]
  rw [hfold, List.nil_append, List.nil_append] at h2
  subst h2
  refine ⟨a1, a17, ?_⟩
  show exS (run T wf n) wf (.for (.nm 1) .seq [(.var 0)] _) _ _ = _
  simp
  exact h1
theorem cb3 (P : List Sp) (hP : W1 P) (wf n : Nat) (m : Mem) (f1 f17 : Option Val) : ∃ g3, exS (run T wf n) wf (cB 3) [some (.d (encP P)), f1, some (.d (.list [.tuple []])), none, none, none, none, none, none, some (.d (softP P)), some (.d (.list ((flagsL P).map PyData.str))), some (.d (.list ((pagesL P).map PyData.str))), none, none, none, none, none, f17, none] m = .ok (.next [some (.d (encP P)), f1, some (.d (.list ((subs (flagsS P)).map encV))), g3, none, none, none, none, none, some (.d (softP P)), some (.d (.list ((flagsL P).map PyData.str))), some (.d (.list ((pagesL P).map PyData.str))), none, none, none, none, none, f17, none]) m := by
  have h3 := hP.flags3
  have hfl := hP.flags_len
  obtain ⟨env', h1, e3, h2, hl, hv⟩ := forLoop_st (t := .nm 3) (gs := []) (m := m) (body := exB (run T wf n) wf [(.set 2 false (.op .add (.var 2) (.lc [1] (.nm 1) .seq [(.var 2)] [] (.op .add (.var 1) (.tup [(.var 3)])))))]) PyData.str
    (fun i (s : List (List Str)) env => ∃ e3, env = [some (.d (encP P)), f1, some (.d (.list (s.map encV))), e3, none, none, none, none, none, some (.d (softP P)), some (.d (.list ((flagsL P).map PyData.str))), some (.d (.list ((pagesL P).map PyData.str))), none, none, none, none, none, f17, none] ∧ s.length = 2 ^ i ∧ ∀ v ∈ s, v.length ≤ i) (fun s f => s ++ s.map (· ++ [f])) rfl (xs := flagsS P) (s := [[]]) (env := [some (.d (encP P)), f1, some (.d (.list [.tuple []])), none, none, none, none, none, none, some (.d (softP P)), some (.d (.list ((flagsL P).map PyData.str))), some (.d (.list ((pagesL P).map PyData.str))), none, none, none, none, none, f17, none]) 0 (by
      rintro i f hf s env ⟨e3, rfl, hl, hv⟩
      have hi : i < 3 := by
        have := (List.getElem?_eq_some_iff.mp hf).1
        omega
      rw [Nat.zero_add] at hl hv
      have hp : 2 ^ i ≤ 8 := by
        have : i = 0 ∨ i = 1 ∨ i = 2 := by omega
        rcases this with rfl | rfl | rfl <;> decide
      refine ⟨[some (.d (encP P)), f1, some (.d (.list (s.map encV))), some (.d (.str f)), none, none, none, none, none, some (.d (softP P)), some (.d (.list ((flagsL P).map PyData.str))), some (.d (.list ((pagesL P).map PyData.str))), none, none, none, none, none, f17, none], [some (.d (encP P)), f1, some (.d (.list ((s ++ s.map (· ++ [f])).map encV))), some (.d (.str f)), none, none, none, none, none, some (.d (softP P)), some (.d (.list ((flagsL P).map PyData.str))), some (.d (.list ((pagesL P).map PyData.str))), none, none, none, none, none, f17, none], by simp, ?_, _, rfl, ?_, ?_⟩
      · simp
        rw [lcLoop_ofm encV (fun v => encV (v ++ [f])) rfl]
        · simp
          rw [addL _ _ (by simp; omega)]
          simp [Function.comp_def]
        · intro v hv'
          have := hv v hv'
          have hll : v.length + 1 ≤ lim := by simp [lim]; omega
          have ha : bop .add (encV v) (.tuple [.str f]) = some (.d (encV (v ++ [f]))) := by
            show (if (v.map PyData.str).length + [PyData.str f].length ≤ lim then _ else _) = _
            rw [if_pos (by simpa using hll)]
            simp [encV]
          simp [ha]
      · rw [Nat.zero_add, List.length_append, List.length_map, hl, Nat.pow_succ]
        omega
      · intro v hv'
        rcases List.mem_append.mp hv' with q | q
        · have := hv v q
          omega
        · obtain ⟨u, hu, rfl⟩ := List.mem_map.mp q
          have := hv u hu
          rw [List.length_append, List.length_singleton]
          omega) ⟨none, rfl, rfl, by simp⟩
  subst h2
  rw [← subsF_fold] at h1
  refine ⟨e3, ?_⟩
  show exS (run T wf n) wf (.for (.nm 3) .seq [(.bi .sortedset [(.var 10)])] _) _ _ = _
  have hs := sset_L (flagsL P) (by omega)
  simp [hs]
  exact h1
def g0 (P : List Sp) : List PyData := [.list ((flagsS P).map PyData.str), .list ((setS (pagesL P)).map PyData.str), .list ((setS (methL P)).map PyData.str), .list ((vsOf (flagsS P)).map encV)]
theorem cb4 (P : List Sp) (hP : W1 P) (wf n : Nat) (hn : 7 ≤ n) (m : Mem) (f1 f3 f17 : Option Val) : exS (run T wf n) wf (cB 4) [some (.d (encP P)), f1, some (.d (.list ((subs (flagsS P)).map encV))), f3, none, none, none, none, none, some (.d (softP P)), some (.d (.list ((flagsL P).map PyData.str))), some (.d (.list ((pagesL P).map PyData.str))), none, none, none, none, none, f17, none] m = .ok (.next [some (.d (encP P)), f1, some (.d (.list ((subs (flagsS P)).map encV))), f3, some (.mr m.length), none, none, none, none, some (.d (softP P)), some (.d (.list ((flagsL P).map PyData.str))), some (.d (.list ((pagesL P).map PyData.str))), none, none, none, none, none, f17, none]) (m ++ [⟨false, g0 P⟩]) := by
  have z1 : run T wf n 11 [.d (softP P)] m = _ := sp_flags (rdS P) hP.toWQ wf n (by omega) m
  have z2 : run T wf n 13 [.d (softP P)] m = _ := sp_sheets (rdS P) hP wf n (by omega) m
  have z3 : run T wf n 12 [.d (softP P)] m = _ := sp_methods (rdS P) hP wf n (by omega) m
  have z4 : run T wf n 14 [.d (softP P)] m = _ := sp_variants (rdS P) hP.toWQ wf n (by omega) m
  show exS (run T wf n) wf (.set 4 true (.lst [(.bi .list [(.call 11 [(.var 9)])]), (.bi .list [(.call 13 [(.var 9)])]), (.bi .list [(.call 12 [(.var 9)])]), (.call 14 [(.var 9)])])) _ _ = _
  simp [z1, z2, z3, z4, listD_encV, g0]
theorem cb5 (P : List Sp) (hP : W1 P) (wf n : Nat) (m : Mem) (f1 f3 f4 f17 : Option Val) : exS (run T wf n) wf (cB 5) [some (.d (encP P)), f1, some (.d (.list ((subs (flagsS P)).map encV))), f3, f4, none, none, none, none, some (.d (softP P)), some (.d (.list ((flagsL P).map PyData.str))), some (.d (.list ((pagesL P).map PyData.str))), none, none, none, none, none, f17, none] m = .ok (.next [some (.d (encP P)), f1, some (.d (.list ((subs (flagsS P)).map encV))), f3, f4, some (.d (.list (g0 P))), none, none, none, some (.d (softP P)), some (.d (.list ((flagsL P).map PyData.str))), some (.d (.list ((pagesL P).map PyData.str))), none, none, none, none, none, f17, none]) m := by
  have hl := hP.len
  have z1 : bi .sortedset [.list ((flagsL P).map PyData.str)] = some (.fr ((flagsS P).map PyData.str)) := sset_L (flagsL P) (by have := hP.flags_len; omega)
  have z2 := sset_L (pagesL P) (by have := hP.pages_len; omega)
  have z3 := sset_L (methL P) (by simp [methL]; omega)
  have z4 := sort_subs (flagsS P)
  have hm : (P.map fun s => PyData.str s.me) = (methL P).map PyData.str := by simp [methL]
  show exS (run T wf n) wf (.set 5 false (.lst [(.bi .sortedset [(.var 10)]), (.bi .sortedset [(.var 11)]), (.bi .sortedset [(.lc [1] (.nm 1) .seq [(.var 0)] [] (.idx (.var 1) (.cst (.int 1))))]), (.bi .sorted [(.var 2)])])) _ _ = _
  have hlc : lcLoop (.nm 1) (sems (run T wf n) []) (sem (run T wf n) (.idx (.var 1) (.cst (.int 1)))) [] [some (.d (encP P)), none, some (.d (.list ((subs (flagsS P)).map encV))), f3, f4, none, none, none, none, some (.d (softP P)), some (.d (.list ((flagsL P).map PyData.str))), some (.d (.list ((pagesL P).map PyData.str))), none, none, none, none, none, f17, none] (P.map enc) m = .ok ((methL P).map PyData.str) m := by
    rw [← hm, lcLoop_ofm enc (fun s => .str s.me) rfl]
    intro s hs
    simp [Ra.K3.e1]
  simp [z1, z2]
  rw [hlc]
  simp [z3, sortedD, z4, g0]
end Ra.K3


set_option Elab.async false
set_option linter.all false
set_option maxRecDepth 100000
set_option maxHeartbeats 1600000
namespace Ra.K3
open PySem M _root_.K1
def gV (P : List Sp) : List (List Str) → List PyData
  | [] => []
  | V :: r => rowV P V ++ gV P r
theorem gV_snoc (P : List Sp) (V : List Str) : ∀ L, gV P (L ++ [V]) = gV P L ++ rowV P V
  | [] => by simp [gV]
  | W :: L => by simp [gV, gV_snoc P V L]
theorem gV_len (P : List Sp) : ∀ L, (gV P L).length = 5 * L.length
  | [] => rfl
  | W :: L => by rw [gV, List.length_append, gV_len P L, List.length_cons]; simp [rowV]; omega
theorem cb6 (P : List Sp) (hP : W1 P) (wf n : Nat) (hn : 9 ≤ n) (m : Mem) (f1 f3 f17 : Option Val) (j : Nat) (hm : m[j]? = some ⟨false, g0 P⟩) :
    ∃ (e1 e6 e12 e13 e14 e15 : Option Val) (m' : Mem) (j' : Nat), exS (run T wf n) wf (cB 6) [some (.d (encP P)), f1, some (.d (.list ((subs (flagsS P)).map encV))), f3, some (.mr j), some (.d (.list (g0 P))), none, none, none, some (.d (softP P)), some (.d (.list ((flagsL P).map PyData.str))), some (.d (.list ((pagesL P).map PyData.str))), none, none, none, none, none, f17, none] m =
      .ok (.next [some (.d (encP P)), e1, some (.d (.list ((subs (flagsS P)).map encV))), f3, some (.mr j'), some (.d (.list (g0 P ++ gV P (subs (flagsS P))))), e6, none, none, some (.d (softP P)), some (.d (.list ((flagsL P).map PyData.str))), some (.d (.list ((pagesL P).map PyData.str))), e12, e13, e14, e15, none, f17, none]) m' ∧ m'[j']? = some ⟨false, g0 P ++ gV P (subs (flagsS P))⟩ ∧ m.length ≤ m'.length ∧ j ≤ j' ∧ ∀ k, k < j → m'[k]? = m[k]? := by
  have h3 := hP.flags3
  have hjl : j < m.length := (List.getElem?_eq_some_iff.mp hm).1
  have hsl : (subs (flagsS P)).length ≤ 8 := by
    have e := subsF_len (flagsS P) [[]]
    have : 2 ^ (flagsS P).length ≤ 2 ^ 3 := Nat.pow_le_pow_right (by decide) h3
    show (subsF [[]] (flagsS P)).length ≤ 8
    rw [e]
    simp
    omega
  have key : ∀ (todo done : List (List Str)), done ++ todo = subs (flagsS P) → ∀ (e1 e6 e12 e13 e14 e15 : Option Val) (m1 : Mem) (j1 : Nat), m1[j1]? = some ⟨false, g0 P ++ gV P done⟩ → m.length ≤ m1.length → j ≤ j1 → (∀ k, k < j → m1[k]? = m[k]?) →
      ∃ (e1' e6' e12' e13' e14' e15' : Option Val) (m' : Mem) (j' : Nat), forLoop (.nm 6) (exB (run T wf n) wf vB) [] (todo.map encV) [some (.d (encP P)), e1, some (.d (.list ((subs (flagsS P)).map encV))), f3, some (.mr j1), some (.d (.list (g0 P ++ gV P done))), e6, none, none, some (.d (softP P)), some (.d (.list ((flagsL P).map PyData.str))), some (.d (.list ((pagesL P).map PyData.str))), e12, e13, e14, e15, none, f17, none] m1 =
        .ok (.next [some (.d (encP P)), e1', some (.d (.list ((subs (flagsS P)).map encV))), f3, some (.mr j'), some (.d (.list (g0 P ++ gV P (subs (flagsS P))))), e6', none, none, some (.d (softP P)), some (.d (.list ((flagsL P).map PyData.str))), some (.d (.list ((pagesL P).map PyData.str))), e12', e13', e14', e15', none, f17, none]) m' ∧ m'[j']? = some ⟨false, g0 P ++ gV P (subs (flagsS P))⟩ ∧ m.length ≤ m'.length ∧ j ≤ j' ∧ ∀ k, k < j → m'[k]? = m[k]? := by
    intro todo
    induction todo with
    | nil =>
      intro done hd e1 e6 e12 e13 e14 e15 m1 j1 h1 h2 h2' h3
      rw [List.append_nil] at hd
      subst hd
      exact ⟨e1, e6, e12, e13, e14, e15, m1, j1, rfl, h1, h2, h2', h3⟩
    | cons V todo ih =>
      intro done hd e1 e6 e12 e13 e14 e15 m1 j1 h1 h2 h2' h3
      have hdl : done.length ≤ 8 := by
        have := congrArg List.length hd
        rw [List.length_append] at this
        omega
      obtain ⟨g1, g12, g13, g14, g15, m2, j2, q1, q2, q3, q4, q5⟩ := row_step hP wf n hn V h1 (by rw [List.length_append, gV_len]; simp [g0]; omega) e1 f3 none none e12 e13 e14 e15 none f17 none (.list ((subs (flagsS P)).map encV)) (.list ((flagsL P).map PyData.str))
      have hj1 : j1 < m1.length := (List.getElem?_eq_some_iff.mp h1).1
      obtain ⟨a1, a6, a12, a13, a14, a15, m', j', r1, r2, r3, r4, r5⟩ := ih (done ++ [V]) (by rw [List.append_assoc]; exact hd) g1 (some (.d (encV V))) g12 g13 g14 g15 m2 j2 (by rw [gV_snoc, ← List.append_assoc]; exact q2) (by omega) (by omega) (fun k hk => (q5 k (by omega) (by omega)).trans (h3 k hk))
      refine ⟨a1, a6, a12, a13, a14, a15, m', j', ?_, r2, r3, r4, r5⟩
      rw [List.map_cons]
      unfold forLoop
      have ha : asg (.nm 6) (encV V) [some (.d (encP P)), e1, some (.d (.list ((subs (flagsS P)).map encV))), f3, some (.mr j1), some (.d (.list (g0 P ++ gV P done))), e6, none, none, some (.d (softP P)), some (.d (.list ((flagsL P).map PyData.str))), some (.d (.list ((pagesL P).map PyData.str))), e12, e13, e14, e15, none, f17, none] = some [some (.d (encP P)), e1, some (.d (.list ((subs (flagsS P)).map encV))), f3, some (.mr j1), some (.d (.list (g0 P ++ gV P done))), some (.d (encV V)), none, none, some (.d (softP P)), some (.d (.list ((flagsL P).map PyData.str))), some (.d (.list ((pagesL P).map PyData.str))), e12, e13, e14, e15, none, f17, none] := by simp
      rw [ha]
      simp only [q1, Res.bind_ok, M.same_nil, if_true]
      rw [List.append_assoc, ← gV_snoc]
      exact r1
  obtain ⟨a1, a6, a12, a13, a14, a15, m', j', r1, r2, r3, r4, r5⟩ := key (subs (flagsS P)) [] rfl f1 none none none none none m j (by simpa [gV] using hm) (Nat.le_refl _) (Nat.le_refl _) (fun _ _ => rfl)
  refine ⟨a1, a6, a12, a13, a14, a15, m', j', ?_, r2, r3, r4, r5⟩
  show exS (run T wf n) wf (.for (.nm 6) .seq [(.var 2)] vB) _ _ = _
  simp [gV] at r1
  simp
  exact r1
/-! behind the variants -/
def freshS : Sp := ⟨"zz", "m", ["sa"], "pz", []⟩
theorem sp_withz {P : List Sp} (hP : W1 P) (wf n : Nat) (hn : 7 ≤ n) (m : Mem) : run T wf n 18 [.d (softP P), .d (enc freshS)] m = .ok (.d (encP (P ++ [freshS]))) m := by
  have h := sp_with hP wf n hn (z := freshS) rfl m
  rw [if_neg (fun z => by
    obtain ⟨s, hs, e⟩ := List.mem_map.mp z
    exact strLt_ne (hP.zz s hs) e), if_pos (show ∀ s ∈ P, strLt s.nm freshS.nm = true from hP.zz)] at h
  exact h
def tail1 (P : List Sp) : List PyData := [bareD, bareD, encP (P ++ [freshS])]
def rowS (P : List Sp) (s : Sp) : List PyData := [enc s, encP (P.filter fun t => !decide (t = s)), .list [.str "twice", .str s.nm, .bool true]]
end Ra.K3


set_option Elab.async false
set_option linter.all false
set_option maxRecDepth 100000
set_option maxHeartbeats 1600000
namespace Ra.K3
open PySem M _root_.K1
mutual
theorem alike_self : ∀ x, ndB x = true → PySem.W.alike x x = true
  | .none, _ => by simp [PySem.W.alike]
  | .bool _, _ => by simp [PySem.W.alike]
  | .int _, _ => by simp [PySem.W.alike]
  | .str _, _ => by simp [PySem.W.alike]
  | .list xs, h => by rw [ndB] at h; rw [PySem.W.alike]; exact alike_selfs xs h
  | .tuple xs, h => by rw [ndB] at h; rw [PySem.W.alike]; exact alike_selfs xs h
  | .dict _, h => by simp [ndB] at h
theorem alike_selfs : ∀ xs, ndBs xs = true → PySem.W.alikeAll xs xs = true
  | [], _ => by simp [PySem.W.alikeAll]
  | x :: r, h => by
    rw [ndBs, Bool.and_eq_true] at h
    rw [PySem.W.alikeAll, alike_self x h.1, alike_selfs r h.2]
    rfl
end
mutual
theorem nd_lis : ∀ x, ndB (lisD x) = ndB x
  | .none => by simp [lisD]
  | .bool _ => by simp [lisD]
  | .int _ => by simp [lisD]
  | .str _ => by simp [lisD]
  | .list xs => by simp [lisD, ndB, nd_liss xs]
  | .tuple xs => by simp [lisD, ndB, nd_liss xs]
  | .dict _ => by simp [lisD]
theorem nd_liss : ∀ xs, ndBs (lisDs xs) = ndBs xs
  | [] => by simp [lisDs]
  | x :: r => by simp [lisDs, ndBs, nd_lis x, nd_liss r]
end
mutual
theorem nd_nest : ∀ x, nestB x = true → ndB x = true
  | .none, _ => by simp [ndB]
  | .bool _, h => by simp [nestB] at h
  | .int _, _ => by simp [ndB]
  | .str _, _ => by simp [ndB]
  | .list _, h => by simp [nestB] at h
  | .tuple xs, h => by rw [nestB] at h; rw [ndB]; exact nd_nests xs h
  | .dict _, h => by simp [nestB] at h
theorem nd_nests : ∀ xs, nestBs xs = true → ndBs xs = true
  | [], _ => by simp [ndBs]
  | x :: r, h => by
    rw [nestBs, Bool.and_eq_true] at h
    rw [ndBs, nd_nest x h.1, nd_nests r h.2]
    rfl
end
theorem ndBs_of : ∀ {xs : List PyData}, (∀ x ∈ xs, ndB x = true) → ndBs xs = true
  | [], _ => by simp [ndBs]
  | x :: r, h => by rw [ndBs, h x List.mem_cons_self, ndBs_of fun y hy => h y (List.mem_cons_of_mem _ hy)]; rfl
theorem nd_encP (P : List Sp) : ndB (encP P) = true := by
  rw [encP, ndB]
  exact ndBs_of fun x hx => by
    obtain ⟨s, _, rfl⟩ := List.mem_map.mp hx
    exact nd_nest _ (nest_enc s)
theorem eq_soft (P : List Sp) : cmp .eq (softP P) (softP P) = some true := by
  have hd : (softP P).depth ≤ 4 := (rdS P).dep
  have hn : ndB (softP P) = true := by rw [softP, nd_lis]; exact nd_encP P
  show (if deep (softP P) (softP P) = true then some (PyData.eqv (softP P) (softP P)) else none) = _
  have hdp : deep (softP P) (softP P) = true := decide_eq_true (by omega)
  rw [if_pos hdp, PySem.W.eqv_refl_alike _ (alike_self _ hn)]
theorem cmp_neE (a b : Sp) : cmp .ne (enc a) (enc b) = some (!decide (a = b)) := by
  have := depth_enc a
  show (if deep (enc a) (enc b) = true then some (!PyData.eqv (enc a) (enc b)) else none) = _
  have hdp : deep (enc a) (enc b) = true := decide_eq_true (by omega)
  rw [if_pos hdp, eqv_enc]
theorem nodup_inj {α β : Type} {f : α → β} : ∀ {L : List α}, (L.map f).Nodup → ∀ a ∈ L, ∀ b ∈ L, f a = f b → a = b
  | [], _, a, ha, _, _, _ => by cases ha
  | x :: L, h, a, ha, b, hb, e => by
    rw [List.map_cons, List.nodup_cons] at h
    rcases List.mem_cons.mp ha with q | q
    · rcases List.mem_cons.mp hb with r | r
      · rw [q, r]
      · exact absurd (by rw [← q, e]; exact List.mem_map_of_mem r) h.1
    · rcases List.mem_cons.mp hb with r | r
      · exact absurd (by rw [← r, ← e]; exact List.mem_map_of_mem q) h.1
      · exact nodup_inj h.2 a q b r e
theorem name_iff {P : List Sp} (hP : W1 P) {s t : Sp} (hs : s ∈ P) (ht : t ∈ P) : t.nm = s.nm ↔ t = s := by
  constructor
  · exact fun e => nodup_inj (ris_nodup hP.ris) t ht s hs e
  · intro e; rw [e]
theorem filt_name {P : List Sp} (hP : W1 P) {s : Sp} (hs : s ∈ P) : ∃ r, P.filter (fun t => decide (t.nm = s.nm)) = s :: r := by
  cases h : P.filter fun t => decide (t.nm = s.nm) with
  | nil => exact absurd (List.filter_eq_nil_iff.mp h s hs) (by simp)
  | cons t r =>
    have ht : t ∈ P.filter fun t => decide (t.nm = s.nm) := by rw [h]; exact List.mem_cons_self
    obtain ⟨h1, h2⟩ := List.mem_filter.mp ht
    rw [(name_iff hP hs h1).mp (of_decide_eq_true h2)]
    exact ⟨r, rfl⟩
theorem filt_not {P : List Sp} (hP : W1 P) {s : Sp} (hs : s ∈ P) : (P.filter fun t => !decide (t.nm = s.nm)) = P.filter fun t => !decide (t = s) := by
  refine List.filter_congr fun t ht => ?_
  have := name_iff hP hs ht
  by_cases h : t = s
  · simp [h]
  · have h2 : ¬ t.nm = s.nm := fun e => h (this.mp e)
    simp [h, h2]
def oB : List S := match cB 12 with
  | .for _ _ _ b => b
  | _ => []
theorem one_step {P : List Sp} (hP : W1 P) (wf n : Nat) (hn : 9 ≤ n) {s : Sp} (hs : s ∈ P) {m : Mem} {j : Nat} {G : List PyData} (hm : m[j]? = some ⟨false, G⟩) (hz : G.length ≤ 900000) (e6 e12 e13 e14 e15 f3 f17 e7 e8 e18 : Option Val) :
    exB (run T wf n) wf oB [some (.d (encP P)), some (.d (enc s)), some (.d (.list ((subs (flagsS P)).map encV))), f3, some (.mr j), some (.d (.list G)), e6, e7, e8, some (.d (softP P)), some (.d (.list ((flagsL P).map PyData.str))), some (.d (.list ((pagesL P).map PyData.str))), e12, e13, e14, e15, none, f17, e18] m = .ok (.next [some (.d (encP P)), some (.d (enc s)), some (.d (.list ((subs (flagsS P)).map encV))), f3, some (.mr m.length), some (.d (.list (G ++ rowS P s))), e6, e7, e8, some (.d (softP P)), some (.d (.list ((flagsL P).map PyData.str))), some (.d (.list ((pagesL P).map PyData.str))), e12, e13, e14, e15, none, f17, e18]) (m ++ [⟨false, G ++ rowS P s⟩]) := by
  obtain ⟨r, hf⟩ := filt_name hP hs
  have hfn := filt_not hP hs
  have m1 : ∀ x : List PyData, (m ++ [⟨false, x⟩])[m.length]? = some (⟨false, x⟩ : Cell) := fun x => at_new m _ []
  have s1 : exS (run T wf n) wf (.set 4 true (.op .add (.var 4) (.lst [(.call 10 [(.var 9), (.idx (.var 1) (.cst (.int 0)))]), (.call 19 [(.var 9), (.idx (.var 1) (.cst (.int 0)))])]))) [some (.d (encP P)), some (.d (enc s)), some (.d (.list ((subs (flagsS P)).map encV))), f3, some (.mr j), some (.d (.list G)), e6, e7, e8, some (.d (softP P)), some (.d (.list ((flagsL P).map PyData.str))), some (.d (.list ((pagesL P).map PyData.str))), e12, e13, e14, e15, none, f17, e18] m = .ok (.next [some (.d (encP P)), some (.d (enc s)), some (.d (.list ((subs (flagsS P)).map encV))), f3, some (.mr m.length), some (.d (.list G)), e6, e7, e8, some (.d (softP P)), some (.d (.list ((flagsL P).map PyData.str))), some (.d (.list ((pagesL P).map PyData.str))), e12, e13, e14, e15, none, f17, e18]) (m ++ [⟨false, G ++ [enc s, encP (P.filter fun t => !decide (t = s))]⟩]) := by
    have z1 := sp_stepof (rdS P) wf n (by omega) s.nm m
    have z2 := sp_without (rdS P) wf n (by omega) s.nm m
    rw [hf] at z1 z2
    rw [hfn] at z2
    rw [set_got (h4 := by simp) (hl := by simp) (hm := hm) (xs := [enc s, encP (P.filter fun t => !decide (t = s))]) (hx := by
      simp [Ra.K3.e0, show run T wf n 10 [.d (softP P), .d (.str s.nm)] m = _ from z1, show run T wf n 19 [.d (softP P), .d (.str s.nm)] m = _ from z2]) (hz := by simp; omega)]
    simp
  have s2 : exS (run T wf n) wf (.app 4 (.call 29 [(.cst (.int 2)), (.var 9), (.tup [(.idx (.var 1) (.cst (.int 0))), (.cst (.str "m")), (.tup []), (.cst (.str "x")), (.tup [])])])) [some (.d (encP P)), some (.d (enc s)), some (.d (.list ((subs (flagsS P)).map encV))), f3, some (.mr m.length), some (.d (.list G)), e6, e7, e8, some (.d (softP P)), some (.d (.list ((flagsL P).map PyData.str))), some (.d (.list ((pagesL P).map PyData.str))), e12, e13, e14, e15, none, f17, e18] (m ++ [⟨false, G ++ [enc s, encP (P.filter fun t => !decide (t = s))]⟩]) = .ok (.next [some (.d (encP P)), some (.d (enc s)), some (.d (.list ((subs (flagsS P)).map encV))), f3, some (.mr m.length), some (.d (.list G)), e6, e7, e8, some (.d (softP P)), some (.d (.list ((flagsL P).map PyData.str))), some (.d (.list ((pagesL P).map PyData.str))), e12, e13, e14, e15, none, f17, e18]) (m ++ [⟨false, G ++ [enc s, encP (P.filter fun t => !decide (t = s))] ++ [.list [.str "twice", .str s.nm, .bool true]]⟩]) := by
    have z := sp_heard2 hP wf n (by omega) hs (m ++ [⟨false, G ++ [enc s, encP (P.filter fun t => !decide (t = s))]⟩])
    have ee : enc ⟨s.nm, "m", [], "x", []⟩ = .tuple [.str s.nm, .str "m", .tuple [], .str "x", .tuple []] := rfl
    rw [ee] at z
    rw [app_got (h4 := by simp) (hm := m1 _) (v := .d (.list [.str "twice", .str s.nm, .bool true])) (x := .list [.str "twice", .str s.nm, .bool true]) (hv := by simp [Ra.K3.e0, z]) (hf := by simp) (hz := by simp; omega), set_new]
  have s3 : ∀ mm, exS (run T wf n) wf (.set 5 false (.op .add (.var 5) (.lst [(.var 1), (.bi .tuple [(.lc [18] (.nm 18) .seq [(.var 0)] [(.cmp .ne (.var 18) (.var 1))] (.var 18))]), (.lst [(.cst (.str "twice")), (.idx (.var 1) (.cst (.int 0))), (.cst (.bool true))])]))) [some (.d (encP P)), some (.d (enc s)), some (.d (.list ((subs (flagsS P)).map encV))), f3, some (.mr m.length), some (.d (.list G)), e6, e7, e8, some (.d (softP P)), some (.d (.list ((flagsL P).map PyData.str))), some (.d (.list ((pagesL P).map PyData.str))), e12, e13, e14, e15, none, f17, e18] mm = .ok (.next [some (.d (encP P)), some (.d (enc s)), some (.d (.list ((subs (flagsS P)).map encV))), f3, some (.mr m.length), some (.d (.list (G ++ rowS P s))), e6, e7, e8, some (.d (softP P)), some (.d (.list ((flagsL P).map PyData.str))), some (.d (.list ((pagesL P).map PyData.str))), e12, e13, e14, e15, none, f17, e18]) mm := fun mm => by
    rw [set_due (G := G) (h5 := by simp) (hl := by simp) (xs := rowS P s) (hx := by
      simp
      rw [lcLoop_of enc (fun t => !decide (t = s)) enc rfl]
      · simp [Ra.K3.e0, rowS, encP]
      · intro t ht
        simp [cmp_neE]) (hz := by simp [rowS]; omega)]
    simp
  simp only [oB, cB, b__law_case_right, List.getD]
  simp only [List.getElem?_cons_succ, List.getElem?_cons_zero, Option.getD_some, M.exB_cons, s1, s2, s3, Res.bind_ok, M.nextF_next, M.exB_nil]
  simp [rowS]
def gS (P : List Sp) : List Sp → List PyData
  | [] => []
  | s :: r => rowS P s ++ gS P r
theorem gS_len (P : List Sp) : ∀ L, (gS P L).length = 3 * L.length
  | [] => rfl
  | W :: L => by rw [gS, List.length_append, gS_len P L, List.length_cons]; simp [rowS]; omega
theorem cb12 {P : List Sp} (hP : W1 P) (wf n : Nat) (hn : 9 ≤ n) (e6 e12 e13 e14 e15 f3 f17 e7 e8 e18 : Option Val) : ∀ (L : List Sp), (∀ s ∈ L, s ∈ P) → ∀ {m : Mem} {j : Nat} {G : List PyData} (e1 : Option Val), m[j]? = some ⟨false, G⟩ → G.length + 3 * L.length ≤ 900000 →
    ∃ (f1 : Option Val) (j' : Nat) (m' : Mem), forLoop (.nm 1) (exB (run T wf n) wf oB) [] (L.map enc) [some (.d (encP P)), e1, some (.d (.list ((subs (flagsS P)).map encV))), f3, some (.mr j), some (.d (.list G)), e6, e7, e8, some (.d (softP P)), some (.d (.list ((flagsL P).map PyData.str))), some (.d (.list ((pagesL P).map PyData.str))), e12, e13, e14, e15, none, f17, e18] m = .ok (.next [some (.d (encP P)), f1, some (.d (.list ((subs (flagsS P)).map encV))), f3, some (.mr j'), some (.d (.list (G ++ gS P L))), e6, e7, e8, some (.d (softP P)), some (.d (.list ((flagsL P).map PyData.str))), some (.d (.list ((pagesL P).map PyData.str))), e12, e13, e14, e15, none, f17, e18]) m' ∧ m'[j']? = some ⟨false, G ++ gS P L⟩ ∧ m.length ≤ m'.length ∧ ∀ k, k < m.length → m'[k]? = m[k]?
  | [], _, m, j, G, e1, hm, _ => ⟨e1, j, m, by simp [forLoop, gS], by simpa [gS] using hm, Nat.le_refl _, fun _ _ => rfl⟩
  | s :: L, hL, m, j, G, e1, hm, hz => by
    rw [List.length_cons] at hz
    have h1 := one_step hP wf n hn (hL s List.mem_cons_self) hm (by omega) e6 e12 e13 e14 e15 f3 f17 e7 e8 e18
    obtain ⟨f1, j', m', r1, r2, r3, r4⟩ := cb12 hP wf n hn e6 e12 e13 e14 e15 f3 f17 e7 e8 e18 L (fun t ht => hL t (List.mem_cons_of_mem _ ht)) (m := m ++ [⟨false, G ++ rowS P s⟩]) (j := m.length) (G := G ++ rowS P s) (some (.d (enc s))) (at_new m _ []) (by rw [List.length_append]; simp [rowS]; omega)
    refine ⟨f1, j', m', ?_, by simpa [gS] using r2, by simp at r3; omega, fun k hk => (r4 k (by simp; omega)).trans (List.getElem?_append_left hk)⟩
    rw [List.map_cons]
    unfold forLoop
    have ha : asg (.nm 1) (enc s) [some (.d (encP P)), e1, some (.d (.list ((subs (flagsS P)).map encV))), f3, some (.mr j), some (.d (.list G)), e6, e7, e8, some (.d (softP P)), some (.d (.list ((flagsL P).map PyData.str))), some (.d (.list ((pagesL P).map PyData.str))), e12, e13, e14, e15, none, f17, e18] = some [some (.d (encP P)), some (.d (enc s)), some (.d (.list ((subs (flagsS P)).map encV))), f3, some (.mr j), some (.d (.list G)), e6, e7, e8, some (.d (softP P)), some (.d (.list ((flagsL P).map PyData.str))), some (.d (.list ((pagesL P).map PyData.str))), e12, e13, e14, e15, none, f17, e18] := by simp
    rw [ha]
    simp only [h1, Res.bind_ok, M.same_nil, if_true]
    rw [r1]
    simp [gS]
end Ra.K3


set_option Elab.async false
set_option linter.all false
set_option maxRecDepth 100000
set_option maxHeartbeats 1600000
namespace Ra.K3
open PySem M _root_.K1
/-! what is compared is small -/
def Gd (x : PyData) : Prop := ndB x = true ∧ x.depth ≤ 4
theorem gd_strs (L : List Str) : Gd (.list (L.map PyData.str)) := ⟨by rw [ndB]; exact nd_nests _ (nest_strs L), by rw [PyData.depth, depth_strs]; decide⟩
theorem gd_encP (P : List Sp) : Gd (encP P) := ⟨nd_encP P, (rdT P).dep⟩
theorem gd_enc (s : Sp) : Gd (enc s) := ⟨nd_nest _ (nest_enc s), by have := depth_enc s; omega⟩
theorem gd_encV (V : List Str) : ndB (encV V) = true ∧ (encV V).depth ≤ 1 := ⟨by rw [encV, ndB]; exact nd_nests _ (nest_strs V), by rw [encV, PyData.depth, depth_strs]; decide⟩
theorem gd_list {xs : List PyData} (h : ∀ x ∈ xs, ndB x = true ∧ x.depth ≤ 3) : Gd (.list xs) := ⟨by rw [ndB]; exact ndBs_of fun x hx => (h x hx).1, by
  rw [PyData.depth]
  have := depthAll_le (d := 3) fun x hx => (h x hx).2
  omega⟩
theorem gd_bare : Gd bareD := ⟨by simp [bareD, ndB, ndBs], by simp [bareD, PyData.depth, PyData.depthAll]⟩
theorem gd_bool (b : Bool) : Gd (.bool b) := ⟨by simp [ndB], by simp [PyData.depth]⟩
theorem gd_g0 (P : List Sp) : ∀ x ∈ g0 P, Gd x := by
  intro x hx
  simp only [g0, List.mem_cons, List.not_mem_nil, or_false] at hx
  rcases hx with rfl | rfl | rfl | rfl
  · exact gd_strs _
  · exact gd_strs _
  · exact gd_strs _
  · refine gd_list fun y hy => ?_
    obtain ⟨V, _, rfl⟩ := List.mem_map.mp hy
    have := gd_encV V
    exact ⟨this.1, by omega⟩
theorem gd_frst (L : List Sp) : ndB (frst L) = true ∧ (frst L).depth ≤ 3 := by
  cases L with
  | nil => exact ⟨rfl, by simp [frst, PyData.depth]⟩
  | cons s r => exact ⟨(gd_enc s).1, depth_enc s⟩
theorem gd_row (P : List Sp) (V : List Str) : ∀ x ∈ rowV P V, Gd x := by
  intro x hx
  simp only [rowV, List.mem_cons, List.not_mem_nil, or_false] at hx
  rcases hx with rfl | rfl | rfl | rfl | rfl
  · exact gd_encP _
  · exact gd_strs _
  · exact gd_strs _
  · refine gd_list fun y hy => ?_
    obtain ⟨V, _, rfl⟩ := List.mem_map.mp hy
    exact gd_frst _
  · refine gd_list fun y hy => ?_
    obtain ⟨s, _, rfl⟩ := List.mem_map.mp hy
    exact ⟨by simp [ndB], by simp [PyData.depth]⟩
theorem gd_gV (P : List Sp) : ∀ L, ∀ x ∈ gV P L, Gd x
  | [], x, h => by cases h
  | V :: L, x, h => by
    rcases List.mem_append.mp h with h | h
    · exact gd_row P V x h
    · exact gd_gV P L x h
theorem gd_gS (P : List Sp) : ∀ L, ∀ x ∈ gS P L, Gd x
  | [], x, h => by cases h
  | s :: L, x, h => by
    rcases List.mem_append.mp h with h | h
    · simp only [rowS, List.mem_cons, List.not_mem_nil, or_false] at h
      rcases h with rfl | rfl | rfl
      · exact gd_enc s
      · exact gd_encP _
      · refine gd_list fun y hy => ?_
        simp only [List.mem_cons, List.not_mem_nil, or_false] at hy
        rcases hy with rfl | rfl | rfl <;> exact ⟨by simp [ndB], by simp [PyData.depth]⟩
    · exact gd_gS P L x h
theorem sp_sameC (wf n : Nat) (hn : 6 ≤ n) {m : Mem} {j : Nat} {G : List PyData} (hm : m[j]? = some ⟨false, G⟩) (hG : ∀ x ∈ G, Gd x) : run T wf n 27 [.mr j, .d (.list G)] m = .ok (.d (.bool true)) m := by
  obtain ⟨n, rfl⟩ : ∃ k, n = k + 1 := ⟨n - 1, by omega⟩
  rw [run_succ d__law_same.fnT rfl rfl (by decide)]
  have hr : rdR m (.mr j) = .ok (.list G) m := rdR_mr m hm
  have hk := lookAll_mr m hm
  have hsm : same [j] m m = true := same_of fun k hk => by
    rw [List.mem_singleton.mp hk]
    exact ⟨_, _, hm, hm, rfl⟩
  simp [d__law_same, Df.fnT, b__law_same, isi, cmp_neB, zip_self, hr, hk]
  rw [lcLoop_ofm (fun x => PyData.tuple [x, x]) (fun _ => .bool true) hsm]
  · have hA := all_true G
    simp only [Res.bind_ok, M.nf_fr, M.lookAll_d, M.lookAll_nil, Option.map_some, optR_some, hA]
    simp
  · intro y hy
    have := hG y hy
    simp [sp_same wf n y m (by have := this.2; omega) this.1]
theorem body_eq : b__law_case_right = [cB 0, cB 1, cB 2, cB 3, cB 4, cB 5, cB 6, cB 7, cB 8, cB 9, cB 10, cB 11, cB 12, cB 13] := rfl
theorem add_z (P : List Sp) (hl : P.length ≤ 8) : bop .add (encP P) (.tuple [enc freshS]) = some (.d (encP (P ++ [freshS]))) := by
  show (if (P.map enc).length + [enc freshS].length ≤ lim then _ else _) = _
  rw [if_pos (by simp [lim]; omega)]
  simp [encP]
theorem tail_right {P : List Sp} (hP : W1 P) (wf n : Nat) (hn : 9 ≤ n) {m : Mem} {j : Nat} (hm : m[j]? = some ⟨false, (g0 P ++ gV P (subs (flagsS P)))⟩) (e1 e6 e12 e13 e14 e15 f3 f17 : Option Val) :
    ∃ m', exB (run T wf n) wf [cB 7, cB 8, cB 9, cB 10, cB 11, cB 12, cB 13] [some (.d (encP P)), e1, some (.d (.list ((subs (flagsS P)).map encV))), f3, some (.mr j), some (.d (.list (g0 P ++ gV P (subs (flagsS P))))), e6, none, none, some (.d (softP P)), some (.d (.list ((flagsL P).map PyData.str))), some (.d (.list ((pagesL P).map PyData.str))), e12, e13, e14, e15, none, f17, none] m = .ok (.ret (.d (.bool true))) m' ∧ m.length ≤ m'.length ∧ ∀ k, k < m.length → m'[k]? = m[k]? := by
  have h3 := hP.flags3
  have hl := hP.len
  have hsl : (subs (flagsS P)).length ≤ 8 := by
    have e := subsF_len (flagsS P) [[]]
    have : 2 ^ (flagsS P).length ≤ 2 ^ 3 := Nat.pow_le_pow_right (by decide) h3
    show (subsF [[]] (flagsS P)).length ≤ 8
    rw [e]
    simp
    omega
  have hG1 : ((g0 P ++ gV P (subs (flagsS P)))).length ≤ 100 := by rw [List.length_append, gV_len]; simp [g0]; omega
  have m1 : ∀ x : List PyData, (m ++ [⟨false, x⟩])[m.length]? = some (⟨false, x⟩ : Cell) := fun x => at_new m _ []
  have hfr : enc freshS = .tuple [.str "zz", .str "m", .tuple [.str "sa"], .str "pz", .tuple []] := rfl
  have s7 : exS (run T wf n) wf (cB 7) [some (.d (encP P)), e1, some (.d (.list ((subs (flagsS P)).map encV))), f3, some (.mr j), some (.d (.list (g0 P ++ gV P (subs (flagsS P))))), e6, none, none, some (.d (softP P)), some (.d (.list ((flagsL P).map PyData.str))), some (.d (.list ((pagesL P).map PyData.str))), e12, e13, e14, e15, none, f17, none] m = .ok (.next [some (.d (encP P)), e1, some (.d (.list ((subs (flagsS P)).map encV))), f3, some (.mr j), some (.d (.list (g0 P ++ gV P (subs (flagsS P))))), e6, some (.d (enc freshS)), none, some (.d (softP P)), some (.d (.list ((flagsL P).map PyData.str))), some (.d (.list ((pagesL P).map PyData.str))), e12, e13, e14, e15, none, f17, none]) m := by
    show exS (run T wf n) wf (.set 7 false (.tup [(.cst (.str "zz")), (.cst (.str "m")), (.tup [(.cst (.str "sa"))]), (.cst (.str "pz")), (.tup [])])) _ _ = _
    rw [hfr]
    simp
  have s8 : exS (run T wf n) wf (cB 8) [some (.d (encP P)), e1, some (.d (.list ((subs (flagsS P)).map encV))), f3, some (.mr j), some (.d (.list (g0 P ++ gV P (subs (flagsS P))))), e6, some (.d (enc freshS)), none, some (.d (softP P)), some (.d (.list ((flagsL P).map PyData.str))), some (.d (.list ((pagesL P).map PyData.str))), e12, e13, e14, e15, none, f17, none] m = .ok (.next [some (.d (encP P)), e1, some (.d (.list ((subs (flagsS P)).map encV))), f3, some (.mr m.length), some (.d (.list (g0 P ++ gV P (subs (flagsS P))))), e6, some (.d (enc freshS)), none, some (.d (softP P)), some (.d (.list ((flagsL P).map PyData.str))), some (.d (.list ((pagesL P).map PyData.str))), e12, e13, e14, e15, none, f17, none]) (m ++ [⟨false, (g0 P ++ gV P (subs (flagsS P))) ++ [bareD, bareD, encP (P ++ [freshS])]⟩]) := by
    show exS (run T wf n) wf (.set 4 true (.op .add (.var 4) (.lst [(.call 29 [(.cst (.int 0)), (.var 9), (.cst (.str "zz"))]), (.call 29 [(.cst (.int 1)), (.var 9), (.cst (.str "zz"))]), (.call 18 [(.var 9), (.var 7)])]))) _ _ = _
    rw [set_got (h4 := by simp) (hl := by simp) (hm := hm) (xs := [bareD, bareD, encP (P ++ [freshS])]) (hx := by
      simp [sp_heard0 hP wf n (by omega) m, sp_heard1 hP wf n (by omega) m, sp_withz hP wf n (by omega) m]) (hz := by simp only [List.length_cons, List.length_nil]; omega)]
    simp
  have s9 : exS (run T wf n) wf (cB 9) [some (.d (encP P)), e1, some (.d (.list ((subs (flagsS P)).map encV))), f3, some (.mr m.length), some (.d (.list (g0 P ++ gV P (subs (flagsS P))))), e6, some (.d (enc freshS)), none, some (.d (softP P)), some (.d (.list ((flagsL P).map PyData.str))), some (.d (.list ((pagesL P).map PyData.str))), e12, e13, e14, e15, none, f17, none] (m ++ [⟨false, (g0 P ++ gV P (subs (flagsS P))) ++ [bareD, bareD, encP (P ++ [freshS])]⟩]) = .ok (.next [some (.d (encP P)), e1, some (.d (.list ((subs (flagsS P)).map encV))), f3, some (.mr m.length), some (.d (.list (g0 P ++ gV P (subs (flagsS P))))), e6, some (.d (enc freshS)), none, some (.d (softP P)), some (.d (.list ((flagsL P).map PyData.str))), some (.d (.list ((pagesL P).map PyData.str))), e12, e13, e14, e15, none, f17, none]) (m ++ [⟨false, (g0 P ++ gV P (subs (flagsS P))) ++ [bareD, bareD, encP (P ++ [freshS])] ++ [.bool true]⟩]) := by
    show exS (run T wf n) wf (.app 4 (.cmp .eq (.var 9) (.call 26 [(.var 0)]))) _ _ = _
    have hv9 : ∀ mm, (sem (run T wf n) (.cmp .eq (.var 9) (.call 26 [(.var 0)]))).v [some (.d (encP P)), e1, some (.d (.list ((subs (flagsS P)).map encV))), f3, some (.mr m.length), some (.d (.list (g0 P ++ gV P (subs (flagsS P))))), e6, some (.d (enc freshS)), none, some (.d (softP P)), some (.d (.list ((flagsL P).map PyData.str))), some (.d (.list ((pagesL P).map PyData.str))), e12, e13, e14, e15, none, f17, none] mm = .ok (.d (.bool true)) mm := fun mm => by
      have z := sp_lists wf n (encP P) mm (by have := (rdT P).dep; omega)
      simp [z, lis_soft, eq_soft]
    rw [app_got (h4 := by simp) (hm := m1 _) (v := .d (.bool true)) (x := .bool true) (hv := hv9 _) (hf := by simp) (hz := by simp only [List.length_append, List.length_cons, List.length_nil] at hG1 ⊢; omega), set_new]
  have s10 : ∀ mm, exS (run T wf n) wf (cB 10) [some (.d (encP P)), e1, some (.d (.list ((subs (flagsS P)).map encV))), f3, some (.mr m.length), some (.d (.list (g0 P ++ gV P (subs (flagsS P))))), e6, some (.d (enc freshS)), none, some (.d (softP P)), some (.d (.list ((flagsL P).map PyData.str))), some (.d (.list ((pagesL P).map PyData.str))), e12, e13, e14, e15, none, f17, none] mm = .ok (.next [some (.d (encP P)), e1, some (.d (.list ((subs (flagsS P)).map encV))), f3, some (.mr m.length), some (.d (.list (g0 P ++ gV P (subs (flagsS P))))), e6, some (.d (enc freshS)), some (.d bareD), some (.d (softP P)), some (.d (.list ((flagsL P).map PyData.str))), some (.d (.list ((pagesL P).map PyData.str))), e12, e13, e14, e15, none, f17, none]) mm := fun mm => by
    show exS (run T wf n) wf (.set 8 false (.lst [(.cst (.str "none")), (.cst (.str "zz")), (.cst (.bool true)), (.cst (.bool false))])) _ _ = _
    simp [bareD]
  have s11 : ∀ mm, exS (run T wf n) wf (cB 11) [some (.d (encP P)), e1, some (.d (.list ((subs (flagsS P)).map encV))), f3, some (.mr m.length), some (.d (.list (g0 P ++ gV P (subs (flagsS P))))), e6, some (.d (enc freshS)), some (.d bareD), some (.d (softP P)), some (.d (.list ((flagsL P).map PyData.str))), some (.d (.list ((pagesL P).map PyData.str))), e12, e13, e14, e15, none, f17, none] mm = .ok (.next [some (.d (encP P)), e1, some (.d (.list ((subs (flagsS P)).map encV))), f3, some (.mr m.length), some (.d (.list ((g0 P ++ gV P (subs (flagsS P))) ++ ([bareD, bareD, encP (P ++ [freshS])] ++ [.bool true])))), e6, some (.d (enc freshS)), some (.d bareD), some (.d (softP P)), some (.d (.list ((flagsL P).map PyData.str))), some (.d (.list ((pagesL P).map PyData.str))), e12, e13, e14, e15, none, f17, none]) mm := fun mm => by
    show exS (run T wf n) wf (.set 5 false (.op .add (.var 5) (.lst [(.var 8), (.var 8), (.op .add (.var 0) (.tup [(.var 7)])), (.cst (.bool true))]))) _ _ = _
    rw [set_due (G := (g0 P ++ gV P (subs (flagsS P)))) (h5 := by simp) (hl := by simp) (xs := [bareD, bareD, encP (P ++ [freshS])] ++ [.bool true]) (hx := by simp [add_z P hl]) (hz := by simp only [List.length_append, List.length_cons, List.length_nil] at hG1 ⊢; omega)]
    simp
  obtain ⟨f1, j', m', r1, r2, r3, r4⟩ := cb12 hP wf n hn e6 e12 e13 e14 e15 f3 f17 (some (.d (enc freshS))) (some (.d bareD)) none P (fun s hs => hs) (m := m ++ [⟨false, (g0 P ++ gV P (subs (flagsS P))) ++ [bareD, bareD, encP (P ++ [freshS])] ++ [.bool true]⟩]) (j := m.length) (G := (g0 P ++ gV P (subs (flagsS P))) ++ ([bareD, bareD, encP (P ++ [freshS])] ++ [.bool true])) e1 (by rw [m1, List.append_assoc]) (by simp only [List.length_append, List.length_cons, List.length_nil] at hG1 ⊢; omega)
  have s12 : exS (run T wf n) wf (cB 12) [some (.d (encP P)), e1, some (.d (.list ((subs (flagsS P)).map encV))), f3, some (.mr m.length), some (.d (.list ((g0 P ++ gV P (subs (flagsS P))) ++ ([bareD, bareD, encP (P ++ [freshS])] ++ [.bool true])))), e6, some (.d (enc freshS)), some (.d bareD), some (.d (softP P)), some (.d (.list ((flagsL P).map PyData.str))), some (.d (.list ((pagesL P).map PyData.str))), e12, e13, e14, e15, none, f17, none] (m ++ [⟨false, (g0 P ++ gV P (subs (flagsS P))) ++ [bareD, bareD, encP (P ++ [freshS])] ++ [.bool true]⟩]) = .ok (.next [some (.d (encP P)), f1, some (.d (.list ((subs (flagsS P)).map encV))), f3, some (.mr j'), some (.d (.list ((g0 P ++ gV P (subs (flagsS P))) ++ ([bareD, bareD, encP (P ++ [freshS])] ++ [.bool true]) ++ gS P P))), e6, some (.d (enc freshS)), some (.d bareD), some (.d (softP P)), some (.d (.list ((flagsL P).map PyData.str))), some (.d (.list ((pagesL P).map PyData.str))), e12, e13, e14, e15, none, f17, none]) m' := by
    rw [← r1]
    show exS (run T wf n) wf (.for (.nm 1) .seq [(.var 0)] oB) _ _ = _
    rfl
  have hgd : ∀ x ∈ (g0 P ++ gV P (subs (flagsS P))) ++ ([bareD, bareD, encP (P ++ [freshS])] ++ [.bool true]) ++ gS P P, Gd x := by
    intro x hx
    rcases List.mem_append.mp hx with hx | hx
    · rcases List.mem_append.mp hx with hx | hx
      · rcases List.mem_append.mp hx with hx | hx
        · exact gd_g0 P x hx
        · exact gd_gV P _ x hx
      · simp only [List.cons_append, List.nil_append, List.mem_cons, List.not_mem_nil, or_false] at hx
        rcases hx with rfl | rfl | rfl | rfl
        · exact gd_bare
        · exact gd_bare
        · exact gd_encP _
        · exact gd_bool true
    · exact gd_gS P P x hx
  have hsm := sp_sameC wf n (by omega) r2 hgd
  refine ⟨m', ?_, by simp at r3; omega, fun k hk => (r4 k (by simp; omega)).trans (List.getElem?_append_left hk)⟩
  rw [M.exB_cons, s7, Res.bind_ok, M.nextF_next, M.exB_cons, s8, Res.bind_ok, M.nextF_next, M.exB_cons, s9, Res.bind_ok, M.nextF_next, M.exB_cons, s10, Res.bind_ok, M.nextF_next, M.exB_cons, s11, Res.bind_ok, M.nextF_next, M.exB_cons, s12, Res.bind_ok, M.nextF_next, M.exB_cons]
  have s13 : exS (run T wf n) wf (cB 13) [some (.d (encP P)), f1, some (.d (.list ((subs (flagsS P)).map encV))), f3, some (.mr j'), some (.d (.list ((g0 P ++ gV P (subs (flagsS P))) ++ ([bareD, bareD, encP (P ++ [freshS])] ++ [.bool true]) ++ gS P P))), e6, some (.d (enc freshS)), some (.d bareD), some (.d (softP P)), some (.d (.list ((flagsL P).map PyData.str))), some (.d (.list ((pagesL P).map PyData.str))), e12, e13, e14, e15, none, f17, none] m' = .ok (.ret (.d (.bool true))) m' := by
    show exS (run T wf n) wf (.ret (.call 27 [(.var 4), (.var 5)])) _ _ = _
    simp only [M.x_ret, M.v_call, M.cArgs_cons, M.v_var, M.getV_succ, M.getV_zero, optR_some, Res.bind_ok, M.nf_mr, M.nf_d, M.cArgs_nil, hsm, Res.noX_ok]
  rw [s13]
  rfl
theorem case_right {P : List Sp} (hP : W1 P) (wf n : Nat) (hn : 10 ≤ n) (m : Mem) : run T wf n 31 [.d (encP P)] m = .ok (.d (.bool true)) m := by
  obtain ⟨n, rfl⟩ : ∃ k, n = k + 1 := ⟨n - 1, by omega⟩
  rw [run_succ d__law_case_right.fnT rfl rfl (by decide)]
  obtain ⟨f1, f17, c1⟩ := cb1 P hP wf n m
  obtain ⟨g3, c3⟩ := cb3 P hP wf n m f1 f17
  have c4 := cb4 P hP wf n (by omega) m f1 g3 f17
  have c5 := cb5 P hP wf n (m ++ [⟨false, g0 P⟩]) f1 g3 (some (.mr m.length)) f17
  obtain ⟨e1, e6, e12, e13, e14, e15, m6, j6, c6, c7, c8, c9, c10⟩ := cb6 P hP wf n (by omega) (m ++ [⟨false, g0 P⟩]) f1 g3 f17 m.length (at_new m _ [])
  obtain ⟨m', t1, t2, t3⟩ := tail_right hP wf n (by omega) c7 e1 e6 e12 e13 e14 e15 g3 f17
  have c2 : exS (run T wf n) wf (cB 2) [some (.d (encP P)), f1, none, none, none, none, none, none, none, some (.d (softP P)), some (.d (.list ((flagsL P).map PyData.str))), some (.d (.list ((pagesL P).map PyData.str))), none, none, none, none, none, f17, none] m = .ok (.next [some (.d (encP P)), f1, some (.d (.list [.tuple []])), none, none, none, none, none, none, some (.d (softP P)), some (.d (.list ((flagsL P).map PyData.str))), some (.d (.list ((pagesL P).map PyData.str))), none, none, none, none, none, f17, none]) m := by
    show exS (run T wf n) wf (.set 2 false (.lst [(.tup [])])) _ _ = _
    simp
  have hb : exB (run T wf n) wf d__law_case_right.fnT.body [some (.d (encP P)), none, none, none, none, none, none, none, none, none, none, none, none, none, none, none, none, none, none] m = .ok (.ret (.d (.bool true))) m' := by
    show exB (run T wf n) wf b__law_case_right _ m = _
    rw [body_eq, M.exB_cons, cb0 P wf n (by omega) m, Res.bind_ok, M.nextF_next, M.exB_cons, c1, Res.bind_ok, M.nextF_next, M.exB_cons, c2, Res.bind_ok, M.nextF_next, M.exB_cons, c3, Res.bind_ok, M.nextF_next, M.exB_cons, c4, Res.bind_ok, M.nextF_next, M.exB_cons, c5, Res.bind_ok, M.nextF_next, M.exB_cons, c6, Res.bind_ok, M.nextF_next]
    exact t1
  have he : (List.map some [Val.d (encP P)] ++ List.replicate (d__law_case_right.fnT.n - d__law_case_right.fnT.ps) none) = [some (.d (encP P)), none, none, none, none, none, none, none, none, none, none, none, none, none, none, none, none, none, none] := rfl
  rw [he, hb]
  have htk : m'.take m.length = m := by
    apply List.ext_getElem?
    intro k
    by_cases hk : k < m.length
    · rw [List.getElem?_take_of_lt hk, t3 k (by simp at c8; omega), c10 k hk, List.getElem?_append_left hk]
    · rw [List.getElem?_eq_none (by rw [List.length_take]; omega), List.getElem?_eq_none (by omega)]
  simp [htk]
end Ra.K3


set_option Elab.async false
set_option linter.all false
set_option maxRecDepth 100000
set_option maxHeartbeats 1600000
namespace Ra.K3
open PySem M _root_.K1
theorem appCell {call : Call} {wf i j : Nat} {e : E} {env : Env} {m m1 : Mem} {x : PyData} {xs : List PyData} (h1 : getV env i = some (.mr j)) (h2 : (sem call e).v env m = .ok (.d x) m1) (h3 : m1[j]? = some ⟨false, xs⟩) (h4 : xs.length < 1000) : exS call wf (.app i e) env m = .ok (.next env) (m1.set j ⟨false, xs ++ [x]⟩) := by
  rw [M.x_app, onCell_mr (j := j) (h := h1), h2]
  simp only [Res.noX_ok, Res.bind_ok, M.frz_d]
  rw [upCell_mr _ _ (j := j) (xs := xs) (ys := xs ++ [x]) h1 h3 (by rw [if_pos (by simp [lim]; omega)])]
/-- texts drawn from a cell -/
theorem draw_ofC (wf n k j q : Nat) (hq : q ≠ k) (env : Env) (pool : List Str) (hp : 0 < pool.length ∧ pool.length < 1000) (hE : ∀ x, ∃ env', asg (.nm j) x env = some env' ∧ getV env' 4 = some (.mr q) ∧ getV env' 0 = some (.mr k)) : ∀ (c : Nat) (lo : Int) (N : Nat) (m : Mem), Bx k N m → m[q]? = some ⟨false, pool.map PyData.str⟩ → N + c < 10000000 →
    ∃ (rs : List Str) (m' : Mem), lcLoop (.nm j) (sems (run T wf (n + 2)) []) (sem (run T wf (n + 2)) (.call 24 [(.var 0), (.var 4)])) [] env (rangeD lo c) m = .ok (rs.map PyData.str) m' ∧ rs.length = c ∧ Bx k (N + c) m' ∧ Up k m m'
  | 0, lo, N, m, hB, _, _ => ⟨[], m, rfl, rfl, by simpa using hB, Up.refl _ _⟩
  | c + 1, lo, N, m, hB, hmq, hN => by
    obtain ⟨env', h1, h2, h3⟩ := hE (.int lo)
    have hrd : rd m (.mr q) = some (.list (pool.map PyData.str)) := by
      show (m[q]?).map _ = _
      rw [hmq]; rfl
    obtain ⟨y, m1, a1, a2, a4, a5⟩ := sp_of wf n k N m (.mr q) (.list (pool.map PyData.str)) (pool.map PyData.str) rfl (by simpa using hq) hrd (.inl rfl) hB (by omega) (by rw [List.length_map]; exact hp.1) (by rw [List.length_map]; omega)
    obtain ⟨s, _, rfl⟩ := List.mem_map.mp a2
    obtain ⟨rs, m', b1, b2, b4, b5⟩ := draw_ofC wf n k j q hq env pool hp hE c (lo + 1) (N + 1) m1 a4 ((a5.2 q hq).trans hmq) (by omega)
    refine ⟨s :: rs, m', ?_, by simp [b2], by rw [show N + (c + 1) = N + 1 + c by omega]; exact b4, a5.trans b5⟩
    unfold rangeD lcLoop
    rw [h1]
    simp [h2, h3, a1, b1]
/-! names -/
def tn (c : Nat) : Str := ("t" : Str) ++ (⟨#[c]⟩ : Str)
def un (c : Nat) : Str := ("u" : Str) ++ (⟨#[c]⟩ : Str)
theorem tn_cps (c : Nat) : (tn c).cps.toList = [116, c] := rfl
theorem un_cps (c : Nat) : (un c).cps.toList = [117, c] := rfl
theorem tn_inj {c d : Nat} (h : tn c = tn d) : c = d := by
  have := congrArg (fun z : Str => z.cps.toList) h
  simp only [tn_cps] at this
  simpa using this
theorem un_inj {c d : Nat} (h : un c = un d) : c = d := by
  have := congrArg (fun z : Str => z.cps.toList) h
  simp only [un_cps] at this
  simpa using this
theorem tn_un {c d : Nat} : tn c ≠ un d := fun h => by
  have := congrArg (fun z : Str => z.cps.toList) h
  simp only [tn_cps, un_cps] at this
  simp at this
theorem zz_cps : (("zz" : Str).cps.toList) = [122, 122] := rfl
theorem tn_zz (c : Nat) : strLt (tn c) "zz" = true := by
  unfold strLt
  rw [tn_cps, zz_cps]
  exact decide_eq_true (List.Lex.rel (by decide))
theorem un_zz (c : Nat) : strLt (un c) "zz" = true := by
  unfold strLt
  rw [un_cps, zz_cps]
  exact decide_eq_true (List.Lex.rel (by decide))
structure FoOk (cs : List Nat) (i : Nat) (F : List Sp) : Prop where
  len : F.length ≤ 7
  nm : ∀ s ∈ F, ∃ c ∈ cs.take i, s.nm = tn c ∨ s.nm = un c
  nd : (F.map Sp.nm).Nodup
  cd : ∀ s ∈ F, s.cd = [] ∨ ∃ f b, s.cd = [(f, b)] ∧ f ∈ FL ∧ (b = 0 ∨ b = 1)
  rl : ∀ s ∈ F, s.rd.length ≤ 3
theorem take_sub {α : Type} {l : List α} {x : α} {i : Nat} (h : x ∈ l.take i) : x ∈ l.take (i + 1) := by
  rw [List.take_succ]
  exact List.mem_append_left _ h
theorem FoOk.mono {cs : List Nat} {i : Nat} {F : List Sp} (h : FoOk cs i F) : FoOk cs (i + 1) F :=
  ⟨h.len, fun s hs => by obtain ⟨c, h1, h2⟩ := h.nm s hs; exact ⟨c, take_sub h1, h2⟩, h.nd, h.cd, h.rl⟩
theorem FoOk.push {cs : List Nat} {i : Nat} {F : List Sp} (h : FoOk cs i F) {s : Sp} (hl : F.length + 1 ≤ 7) (hn : ∃ c ∈ cs.take i, s.nm = tn c ∨ s.nm = un c) (hnew : s.nm ∉ F.map Sp.nm) (hc : s.cd = [] ∨ ∃ f b, s.cd = [(f, b)] ∧ f ∈ FL ∧ (b = 0 ∨ b = 1)) (hr : s.rd.length ≤ 3) : FoOk cs i (F ++ [s]) := by
  refine ⟨by simpa using hl, fun t ht => ?_, ?_, fun t ht => ?_, fun t ht => ?_⟩
  · rcases List.mem_append.mp ht with q | q
    · exact h.nm t q
    · rw [List.mem_singleton.mp q]; exact hn
  · rw [List.map_append]
    refine List.nodup_append.mpr ⟨h.nd, by simp, fun a ha b hb => ?_⟩
    simp at hb
    subst hb
    rintro rfl
    exact hnew ha
  · rcases List.mem_append.mp ht with q | q
    · exact h.cd t q
    · rw [List.mem_singleton.mp q]; exact hc
  · rcases List.mem_append.mp ht with q | q
    · exact h.rl t q
    · rw [List.mem_singleton.mp q]; exact hr
theorem FoOk.fresh {cs : List Nat} (hcs : cs.Nodup) {i c : Nat} (hc : cs[i]? = some c) {F : List Sp} (h : FoOk cs i F) : tn c ∉ F.map Sp.nm ∧ un c ∉ F.map Sp.nm := by
  have hnot : c ∉ cs.take i := fun z => by
    obtain ⟨j, hj⟩ := List.getElem?_of_mem z
    have hlt : j < i := by
      have := (List.getElem?_eq_some_iff.mp hj).1
      rw [List.length_take] at this
      omega
    rw [List.getElem?_take_of_lt hlt] at hj
    have hjl := (List.getElem?_eq_some_iff.mp hj).1
    have := (List.getElem?_inj hjl hcs).mp (hj.trans hc.symm)
    omega
  constructor
  · intro z
    obtain ⟨s, hs, e⟩ := List.mem_map.mp z
    obtain ⟨d, hd, q⟩ := h.nm s hs
    rcases q with q | q
    · rw [← tn_inj (q.symm.trans e)] at hnot; exact hnot hd
    · exact tn_un (e.symm.trans q)
  · intro z
    obtain ⟨s, hs, e⟩ := List.mem_map.mp z
    obtain ⟨d, hd, q⟩ := h.nm s hs
    rcases q with q | q
    · exact tn_un (q.symm.trans e)
    · rw [← un_inj (q.symm.trans e)] at hnot; exact hnot hd
/-- a drawn plan is served -/
theorem FoOk.w1 {cs : List Nat} {i : Nat} {F Q : List Sp} (h : FoOk cs i F) (hp : Q.Perm F) (hr : risB (Q.map Sp.nm) = true) : W1 Q := by
  have m : ∀ s ∈ Q, s ∈ F := fun s hs => hp.mem_iff.mp hs
  refine ⟨⟨⟨hr, fun s hs => ?_⟩, by rw [hp.length_eq]; have := h.len; omega, fun s hs => ?_, fun s hs p hpm => ?_⟩, fun s hs => ?_, fun s hs => by have := h.rl s (m s hs); omega⟩
  · rcases h.cd s (m s hs) with e | ⟨f, b, e, _, hb⟩
    · rw [e]; exact ⟨by simp, by simp⟩
    · rw [e]; exact ⟨by simp, fun p hp => by rw [List.mem_singleton.mp hp]; exact hb⟩
  · rcases h.cd s (m s hs) with e | ⟨f, b, e, _⟩ <;> rw [e] <;> simp
  · rcases h.cd s (m s hs) with e | ⟨f, b, e, hf, _⟩
    · rw [e] at hpm; cases hpm
    · rw [e] at hpm; rw [List.mem_singleton.mp hpm]; exact hf
  · obtain ⟨c, _, q⟩ := h.nm s (m s hs)
    rcases q with q | q <;> rw [q]
    · exact tn_zz c
    · exact un_zz c
end Ra.K3


set_option Elab.async false
set_option linter.all false
set_option maxRecDepth 100000
set_option maxHeartbeats 1600000
namespace Ra.K3
open PySem M _root_.K1
def fgs : PyData := .tuple [.str "fa", .str "fb"]
structure FJ (k N : Nat) (m0 : Mem) (cs : List Nat) (i : Nat) (m : Mem) (A : List Str) (F : List Sp) : Prop where
  len : m.length = m0.length + 2
  a : m[m0.length]? = some ⟨false, A.map PyData.str⟩
  al : 0 < A.length ∧ A.length ≤ 3 + i
  f : m[m0.length + 1]? = some ⟨false, F.map enc⟩
  ok : FoOk cs i F
  B : Bx k (N + 20 * i) m
  G : Gr k m0 m
theorem FJ.up {k N : Nat} {m0 : Mem} {cs : List Nat} {i : Nat} {m m' : Mem} {A : List Str} {F : List Sp} (J : FJ k N m0 cs i m A F) (hk : k < m0.length) (hu : Up k m m') : m'.length = m0.length + 2 ∧ m'[m0.length]? = some ⟨false, A.map PyData.str⟩ ∧ m'[m0.length + 1]? = some ⟨false, F.map enc⟩ ∧ Gr k m0 m' :=
  ⟨hu.1.trans J.len, (hu.2 _ (by omega)).trans J.a, (hu.2 _ (by omega)).trans J.f, J.G.trans hu.gr⟩
def fB : List S := match b__law_form with
  | [_, _, .for _ _ _ b, _] => b
  | _ => []
theorem add_str (x : Str) (c : Nat) (h : x.length ≤ 10) : bop .add (.str x) (one c) = some (.d (.str (x ++ (⟨#[c]⟩ : Str)))) := by
  show (if x.length + (⟨#[c]⟩ : Str).length ≤ lim then _ else _) = _
  have : (⟨#[c]⟩ : Str).length = 1 := rfl
  rw [if_pos (by rw [this]; simp [lim]; omega)]
theorem idx_one {cs : List Nat} {i c : Nat} (h : cs[i]? = some c) : idx (.list (cs.map one)) (.int i) = some (one c) := by
  have hl := (List.getElem?_eq_some_iff.mp h).1
  have h2 : (i : Int) < cs.length := by omega
  simp only [idx, L2.atI, L2.ixN, List.length_map]
  simp [h2, h]
theorem fo_step (wf n k N : Nat) (m0 m : Mem) (hk : k < m0.length) (hN : N < 100000) (ps cs : List Nat) (hcs : cs.Nodup) (hpl : ps.length = 7) (hcl : cs.length = 7) (i : Nat) (hi : i < 7) (A : List Str) (F : List Sp) (J : FJ k N m0 cs i m A F) (e8 e9 e10 e11 e12 e13 e14 e15 : Option Val) :
    ∃ f8 f9 f10 f11 f12 f13 f14 f15 m' A' F', exB (run T wf (n + 2)) wf fB [some (.mr k), some (.d (.int 7)), some (.d fgs), some (.d (.int i)), some (.mr m0.length), some (.mr (m0.length + 1)), some (.d (.list (ps.map one))), some (.d (.list (cs.map one))), e8, e9, e10, e11, e12, e13, e14, e15, none] m = .ok (.next [some (.mr k), some (.d (.int 7)), some (.d fgs), some (.d (.int i)), some (.mr m0.length), some (.mr (m0.length + 1)), some (.d (.list (ps.map one))), some (.d (.list (cs.map one))), f8, f9, f10, f11, f12, f13, f14, f15, none]) m' ∧ FJ k N m0 cs (i + 1) m' A' F' := by
  have hq : m0.length ≠ k := by omega
  obtain ⟨c, hc⟩ : ∃ c, cs[i]? = some c := ⟨cs[i]'(by omega), List.getElem?_eq_getElem _⟩
  obtain ⟨pc, hpc⟩ : ∃ c, ps[i]? = some c := ⟨ps[i]'(by omega), List.getElem?_eq_getElem _⟩
  have hcm : c ∈ cs.take (i + 1) := by
    rw [List.take_succ, hc]
    simp
  obtain ⟨hf1, hf2⟩ := J.ok.fresh hcs hc
  have hFl := J.ok.len
  have hAl := J.al
  have t1 : exS (run T wf (n + 2)) wf (.par [(9, false), (10, false)] [(.op .add (.cst (.str "p")) (.idx (.var 6) (.var 3))), (.idx (.var 7) (.var 3))]) [some (.mr k), some (.d (.int 7)), some (.d fgs), some (.d (.int i)), some (.mr m0.length), some (.mr (m0.length + 1)), some (.d (.list (ps.map one))), some (.d (.list (cs.map one))), e8, e9, e10, e11, e12, e13, e14, e15, none] m = .ok (.next [some (.mr k), some (.d (.int 7)), some (.d fgs), some (.d (.int i)), some (.mr m0.length), some (.mr (m0.length + 1)), some (.d (.list (ps.map one))), some (.d (.list (cs.map one))), e8, some (.d (.str (("p" : Str) ++ (⟨#[pc]⟩ : Str)))), some (.d (one c)), e11, e12, e13, e14, e15, none]) m := by
    have h1 := idx_one hpc
    have h2 := idx_one hc
    have h3 := add_str "p" pc (by decide)
    simp [h1, h2, h3]
  obtain ⟨r, m2, b1, b2, b3, b4, b5⟩ := sp_take wf (n + 1) k (N + 20 * i) m 4 J.B (by omega) (by omega) (by omega)
  obtain ⟨w, rfl⟩ : ∃ w : Nat, r = w := ⟨r.toNat, by omega⟩
  obtain ⟨l2, a2, f2, g2⟩ := J.up hk b5
  obtain ⟨rs, m3, c1, c2, c4, c5⟩ := draw_ofC wf n k 16 m0.length hq (wipe [some (.mr k), some (.d (.int 7)), some (.d fgs), some (.d (.int i)), some (.mr m0.length), some (.mr (m0.length + 1)), some (.d (.list (ps.map one))), some (.d (.list (cs.map one))), e8, some (.d (.str (("p" : Str) ++ (⟨#[pc]⟩ : Str)))), some (.d (one c)), e11, e12, e13, e14, e15, none] [16]) A ⟨hAl.1, by omega⟩ (fun x => ⟨_, by simp; rfl, by simp, by simp⟩) w 0 (N + 20 * i + 1) m2 b4 a2 (by omega)
  have t2 : exS (run T wf (n + 2)) wf (.set 8 false (.bi .tuple [(.lc [16] (.nm 16) .range [(.call 22 [(.var 0), (.cst (.int 4))])] [] (.call 24 [(.var 0), (.var 4)]))])) [some (.mr k), some (.d (.int 7)), some (.d fgs), some (.d (.int i)), some (.mr m0.length), some (.mr (m0.length + 1)), some (.d (.list (ps.map one))), some (.d (.list (cs.map one))), e8, some (.d (.str (("p" : Str) ++ (⟨#[pc]⟩ : Str)))), some (.d (one c)), e11, e12, e13, e14, e15, none] m = .ok (.next [some (.mr k), some (.d (.int 7)), some (.d fgs), some (.d (.int i)), some (.mr m0.length), some (.mr (m0.length + 1)), some (.d (.list (ps.map one))), some (.d (.list (cs.map one))), some (.d (.tuple (rs.map PyData.str))), some (.d (.str (("p" : Str) ++ (⟨#[pc]⟩ : Str)))), some (.d (one c)), e11, e12, e13, e14, e15, none]) m3 := by
    have hw := M.walk_range (n := w) (by omega)
    generalize rangeD 0 w = rr at c1 hw
    simp at c1
    simp [b1, hw, c1]
  obtain ⟨ym, m4, d1, d2, d3, d4⟩ := sp_of wf n k (N + 20 * i + 1 + w) m3 (.d (.list [.str "ma", .str "mb", .str "mc"])) (.list [.str "ma", .str "mb", .str "mc"]) [.str "ma", .str "mb", .str "mc"] rfl (by simp) rfl (.inl rfl) c4 (by omega) (by simp) (by simp)
  obtain ⟨me, rfl⟩ : ∃ s, ym = .str s := by
    simp only [List.mem_cons, List.not_mem_nil, or_false] at d2
    rcases d2 with rfl | rfl | rfl <;> exact ⟨_, rfl⟩
  obtain ⟨so, m5, g1, g2', g3, g4, g5⟩ := sp_take wf (n + 1) k (N + 20 * i + 1 + w + 1) m4 4 d3 (by omega) (by omega) (by omega)
  have hne : cmp .ne fgs (.tuple []) = some true := by decide
  have t3 : exS (run T wf (n + 2)) wf (.par [(11, false), (12, false)] [(.call 24 [(.var 0), (.lst [(.cst (.str "ma")), (.cst (.str "mb")), (.cst (.str "mc"))])]), (.ite (.cmp .ne (.var 2) (.tup [])) (.call 22 [(.var 0), (.cst (.int 4))]) (.cst (.int 3)))]) [some (.mr k), some (.d (.int 7)), some (.d fgs), some (.d (.int i)), some (.mr m0.length), some (.mr (m0.length + 1)), some (.d (.list (ps.map one))), some (.d (.list (cs.map one))), some (.d (.tuple (rs.map PyData.str))), some (.d (.str (("p" : Str) ++ (⟨#[pc]⟩ : Str)))), some (.d (one c)), e11, e12, e13, e14, e15, none] m3 = .ok (.next [some (.mr k), some (.d (.int 7)), some (.d fgs), some (.d (.int i)), some (.mr m0.length), some (.mr (m0.length + 1)), some (.d (.list (ps.map one))), some (.d (.list (cs.map one))), some (.d (.tuple (rs.map PyData.str))), some (.d (.str (("p" : Str) ++ (⟨#[pc]⟩ : Str)))), some (.d (one c)), some (.d (.str me)), some (.d (.int so)), e13, e14, e15, none]) m5 := by
    simp [d1, hne, g1]
  have hU5 : Up k m m5 := ((b5.trans c5).trans d4).trans g5
  obtain ⟨l5, a5, f5, G5⟩ := J.up hk hU5
  have hlk : lookAll m5 [.mr (m0.length + 1)] = some [.list (F.map enc)] := lookAll_mr _ f5 _
  have hB5 : Bx k (N + 20 * i + 1 + w + 1 + 1) m5 := g4
  have hrs : rs.length ≤ 3 := by omega
  have tail : ∀ (e13 e14 e15 : Option Val) (m6 : Mem) (F' : List Sp) (B : Nat), Up k m5 (m6.set (m0.length + 1) ⟨false, F.map enc⟩) ∨ True → m6.length = m0.length + 2 → m6[m0.length]? = some ⟨false, A.map PyData.str⟩ → m6[m0.length + 1]? = some ⟨false, F'.map enc⟩ → FoOk cs (i + 1) F' → Bx k (N + 20 * i + 20) m6 → Gr k m0 m6 →
      ∃ m', exS (run T wf (n + 2)) wf (.app 4 (.var 9)) [some (.mr k), some (.d (.int 7)), some (.d fgs), some (.d (.int i)), some (.mr m0.length), some (.mr (m0.length + 1)), some (.d (.list (ps.map one))), some (.d (.list (cs.map one))), some (.d (.tuple (rs.map PyData.str))), some (.d (.str (("p" : Str) ++ (⟨#[pc]⟩ : Str)))), some (.d (one c)), some (.d (.str me)), some (.d (.int so)), e13, e14, e15, none] m6 = .ok (.next [some (.mr k), some (.d (.int 7)), some (.d fgs), some (.d (.int i)), some (.mr m0.length), some (.mr (m0.length + 1)), some (.d (.list (ps.map one))), some (.d (.list (cs.map one))), some (.d (.tuple (rs.map PyData.str))), some (.d (.str (("p" : Str) ++ (⟨#[pc]⟩ : Str)))), some (.d (one c)), some (.d (.str me)), some (.d (.int so)), e13, e14, e15, none]) m' ∧ FJ k N m0 cs (i + 1) m' (A ++ [("p" : Str) ++ (⟨#[pc]⟩ : Str)]) F' := by
    intro e13 e14 e15 m6 F' B _ hl6 ha6 hf6 ho6 hB6 hG6
    refine ⟨_, appCell (i := 4) (j := m0.length) (by simp) (by simp; rfl) ha6 (by rw [List.length_map]; omega), ?_⟩
    refine ⟨by simp [hl6], by rw [List.getElem?_set_self (by omega)]; simp, ⟨by simp, by simp; omega⟩, by rw [List.getElem?_set_ne (by omega)]; exact hf6, ho6, ?_, hG6.put _ (Nat.le_refl _)⟩
    rw [show N + 20 * (i + 1) = N + 20 * i + 20 by omega]
    exact hB6.put _ hq
  have h3 := add_str "t" c (by decide)
  have h4 := add_str "u" c (by decide)
  by_cases hA : so = 0 ∧ F.length < 6
  · obtain ⟨rfl, hF6⟩ := hA
    obtain ⟨yf, m6, p1, p2, p3, p4⟩ := sp_of wf n k _ m5 (.d fgs) fgs [.str "fa", .str "fb"] rfl (by simp) rfl (.inr rfl) hB5 (by omega) (by simp) (by simp)
    obtain ⟨fl, rfl, hfl⟩ : ∃ s, yf = .str s ∧ s ∈ FL := by
      simp only [List.mem_cons, List.not_mem_nil, or_false] at p2
      rcases p2 with rfl | rfl
      · exact ⟨_, rfl, by simp [FL]⟩
      · exact ⟨_, rfl, by simp [FL]⟩
    obtain ⟨r2, m7, q1, q2, q3, q4, q5⟩ := sp_take wf (n + 1) k _ m6 3 p3 (by omega) (by omega) (by omega)
    obtain ⟨w2, rfl⟩ : ∃ w : Nat, r2 = w := ⟨r2.toNat, by omega⟩
    obtain ⟨l7, a7, f7, G7⟩ := J.up hk ((hU5.trans p4).trans q5)
    obtain ⟨rs2, m8, s1, s2, s4, s5⟩ := draw_ofC wf n k 16 m0.length hq (wipe [some (.mr k), some (.d (.int 7)), some (.d fgs), some (.d (.int i)), some (.mr m0.length), some (.mr (m0.length + 1)), some (.d (.list (ps.map one))), some (.d (.list (cs.map one))), some (.d (.tuple (rs.map PyData.str))), some (.d (.str (("p" : Str) ++ (⟨#[pc]⟩ : Str)))), some (.d (one c)), some (.d (.str me)), some (.d (.int 0)), some (.d (.str fl)), e14, e15, none] [16]) A ⟨hAl.1, by omega⟩ (fun x => ⟨_, by simp; rfl, by simp, by simp⟩) w2 0 _ m7 q4 a7 (by omega)
    have hU8 := ((hU5.trans p4).trans q5).trans s5
    obtain ⟨l8, a8, f8, G8⟩ := J.up hk hU8
    have u1 : exS (run T wf (n + 2)) wf (.set 13 false (.call 24 [(.var 0), (.var 2)])) [some (.mr k), some (.d (.int 7)), some (.d fgs), some (.d (.int i)), some (.mr m0.length), some (.mr (m0.length + 1)), some (.d (.list (ps.map one))), some (.d (.list (cs.map one))), some (.d (.tuple (rs.map PyData.str))), some (.d (.str (("p" : Str) ++ (⟨#[pc]⟩ : Str)))), some (.d (one c)), some (.d (.str me)), some (.d (.int 0)), e13, e14, e15, none] m5 = .ok (.next [some (.mr k), some (.d (.int 7)), some (.d fgs), some (.d (.int i)), some (.mr m0.length), some (.mr (m0.length + 1)), some (.d (.list (ps.map one))), some (.d (.list (cs.map one))), some (.d (.tuple (rs.map PyData.str))), some (.d (.str (("p" : Str) ++ (⟨#[pc]⟩ : Str)))), some (.d (one c)), some (.d (.str me)), some (.d (.int 0)), some (.d (.str fl)), e14, e15, none]) m6 := by
      simp [p1]
    have u2 : exS (run T wf (n + 2)) wf (.set 14 false (.bi .tuple [(.lc [16] (.nm 16) .range [(.call 22 [(.var 0), (.cst (.int 3))])] [] (.call 24 [(.var 0), (.var 4)]))])) [some (.mr k), some (.d (.int 7)), some (.d fgs), some (.d (.int i)), some (.mr m0.length), some (.mr (m0.length + 1)), some (.d (.list (ps.map one))), some (.d (.list (cs.map one))), some (.d (.tuple (rs.map PyData.str))), some (.d (.str (("p" : Str) ++ (⟨#[pc]⟩ : Str)))), some (.d (one c)), some (.d (.str me)), some (.d (.int 0)), some (.d (.str fl)), e14, e15, none] m6 = .ok (.next [some (.mr k), some (.d (.int 7)), some (.d fgs), some (.d (.int i)), some (.mr m0.length), some (.mr (m0.length + 1)), some (.d (.list (ps.map one))), some (.d (.list (cs.map one))), some (.d (.tuple (rs.map PyData.str))), some (.d (.str (("p" : Str) ++ (⟨#[pc]⟩ : Str)))), some (.d (one c)), some (.d (.str me)), some (.d (.int 0)), some (.d (.str fl)), some (.d (.tuple (rs2.map PyData.str))), e15, none]) m8 := by
      have hw := M.walk_range (n := w2) (by omega)
      generalize rangeD 0 w2 = rr at s1 hw
      simp at s1
      simp [q1, hw, s1]
    let sA : Sp := ⟨tn c, me, rs, ("p" : Str) ++ (⟨#[pc]⟩ : Str), [(fl, 0)]⟩
    have u3 : exS (run T wf (n + 2)) wf (.app 5 (.tup [(.op .add (.cst (.str "t")) (.var 10)), (.var 11), (.var 8), (.var 9), (.tup [(.tup [(.var 13), (.cst (.int 0))])])])) [some (.mr k), some (.d (.int 7)), some (.d fgs), some (.d (.int i)), some (.mr m0.length), some (.mr (m0.length + 1)), some (.d (.list (ps.map one))), some (.d (.list (cs.map one))), some (.d (.tuple (rs.map PyData.str))), some (.d (.str (("p" : Str) ++ (⟨#[pc]⟩ : Str)))), some (.d (one c)), some (.d (.str me)), some (.d (.int 0)), some (.d (.str fl)), some (.d (.tuple (rs2.map PyData.str))), e15, none] m8 = .ok (.next [some (.mr k), some (.d (.int 7)), some (.d fgs), some (.d (.int i)), some (.mr m0.length), some (.mr (m0.length + 1)), some (.d (.list (ps.map one))), some (.d (.list (cs.map one))), some (.d (.tuple (rs.map PyData.str))), some (.d (.str (("p" : Str) ++ (⟨#[pc]⟩ : Str)))), some (.d (one c)), some (.d (.str me)), some (.d (.int 0)), some (.d (.str fl)), some (.d (.tuple (rs2.map PyData.str))), e15, none]) (m8.set (m0.length + 1) ⟨false, F.map enc ++ [enc sA]⟩) :=
      appCell (i := 5) (j := m0.length + 1) (by simp) (by simp [h3]; rfl) f8 (by rw [List.length_map]; omega)
    have hB9 := s4.put (j := m0.length + 1) ⟨false, F.map enc ++ [enc sA]⟩ (by omega)
    obtain ⟨y2, m9, v1, v2, v3, v4⟩ := sp_of wf n k _ (m8.set (m0.length + 1) ⟨false, F.map enc ++ [enc sA]⟩) (.d (.list [.str "ma", .str "mb"])) (.list [.str "ma", .str "mb"]) [.str "ma", .str "mb"] rfl (by simp) rfl (.inl rfl) hB9 (by omega) (by simp) (by simp)
    obtain ⟨me2, rfl⟩ : ∃ s, y2 = .str s := by
      simp only [List.mem_cons, List.not_mem_nil, or_false] at v2
      rcases v2 with rfl | rfl <;> exact ⟨_, rfl⟩
    let sB : Sp := ⟨un c, me2, rs2, ("p" : Str) ++ (⟨#[pc]⟩ : Str), [(fl, 1)]⟩
    have f9 : m9[m0.length + 1]? = some ⟨false, F.map enc ++ [enc sA]⟩ := (v4.2 _ (by omega)).trans (List.getElem?_set_self (by omega))
    have a9 : m9[m0.length]? = some ⟨false, A.map PyData.str⟩ := (v4.2 _ (by omega)).trans (by rw [List.getElem?_set_ne (by omega)]; exact a8)
    have l9 : m9.length = m0.length + 2 := v4.1.trans (by simp [l8])
    have G9 : Gr k m0 m9 := (G8.put _ (by omega)).trans v4.gr
    have u4 : exS (run T wf (n + 2)) wf (.app 5 (.tup [(.op .add (.cst (.str "u")) (.var 10)), (.call 24 [(.var 0), (.lst [(.cst (.str "ma")), (.cst (.str "mb"))])]), (.var 14), (.var 9), (.tup [(.tup [(.var 13), (.cst (.int 1))])])])) [some (.mr k), some (.d (.int 7)), some (.d fgs), some (.d (.int i)), some (.mr m0.length), some (.mr (m0.length + 1)), some (.d (.list (ps.map one))), some (.d (.list (cs.map one))), some (.d (.tuple (rs.map PyData.str))), some (.d (.str (("p" : Str) ++ (⟨#[pc]⟩ : Str)))), some (.d (one c)), some (.d (.str me)), some (.d (.int 0)), some (.d (.str fl)), some (.d (.tuple (rs2.map PyData.str))), e15, none] (m8.set (m0.length + 1) ⟨false, F.map enc ++ [enc sA]⟩) = .ok (.next [some (.mr k), some (.d (.int 7)), some (.d fgs), some (.d (.int i)), some (.mr m0.length), some (.mr (m0.length + 1)), some (.d (.list (ps.map one))), some (.d (.list (cs.map one))), some (.d (.tuple (rs.map PyData.str))), some (.d (.str (("p" : Str) ++ (⟨#[pc]⟩ : Str)))), some (.d (one c)), some (.d (.str me)), some (.d (.int 0)), some (.d (.str fl)), some (.d (.tuple (rs2.map PyData.str))), e15, none]) (m9.set (m0.length + 1) ⟨false, F.map enc ++ [enc sA] ++ [enc sB]⟩) :=
      appCell (i := 5) (j := m0.length + 1) (by simp) (by simp [h4, v1]; rfl) f9 (by simp; omega)
    have o1 : FoOk cs (i + 1) (F ++ [sA]) := J.ok.mono.push (by omega) ⟨c, hcm, .inl rfl⟩ hf1 (.inr ⟨fl, 0, rfl, hfl, .inl rfl⟩) hrs
    have o2 : FoOk cs (i + 1) (F ++ [sA] ++ [sB]) := o1.push (by simp; omega) ⟨c, hcm, .inr rfl⟩ (by
      rw [List.map_append, List.mem_append]
      rintro (z | z)
      · exact hf2 z
      · rw [List.map_singleton, List.mem_singleton] at z
        exact tn_un z.symm) (.inr ⟨fl, 1, rfl, hfl, .inr rfl⟩) (by show rs2.length ≤ 3; omega)
    obtain ⟨m', w1, w2'⟩ := tail (some (.d (.str fl))) (some (.d (.tuple (rs2.map PyData.str)))) e15 (m9.set (m0.length + 1) ⟨false, F.map enc ++ [enc sA] ++ [enc sB]⟩) (F ++ [sA] ++ [sB]) 0 (.inr trivial) (by simp [l9]) (by rw [List.getElem?_set_ne (by omega)]; exact a9) (by rw [List.getElem?_set_self (by omega)]; simp) o2 ((v3.put _ (by omega)).mono (by omega)) (G9.put _ (by omega))
    refine ⟨some (.d (.tuple (rs.map PyData.str))), some (.d (.str (("p" : Str) ++ (⟨#[pc]⟩ : Str)))), some (.d (one c)), some (.d (.str me)), some (.d (.int 0)), some (.d (.str fl)), some (.d (.tuple (rs2.map PyData.str))), e15, m', _, _, ?_, w2'⟩
    simp only [fB, b__law_form]
    rw [M.exB_cons, t1, Res.bind_ok, M.nextF_next, M.exB_cons, t2, Res.bind_ok, M.nextF_next, M.exB_cons, t3, Res.bind_ok, M.nextF_next, M.exB_cons, M.x_iff]
    have ht : (sem (run T wf (n + 2)) (.band [(.cmp .eq (.var 12) (.cst (.int 0))), (.cmp .lt (.bi .len [(.var 5)]) (.op .sub (.var 1) (.cst (.int 1))))])).t [some (.mr k), some (.d (.int 7)), some (.d fgs), some (.d (.int i)), some (.mr m0.length), some (.mr (m0.length + 1)), some (.d (.list (ps.map one))), some (.d (.list (cs.map one))), some (.d (.tuple (rs.map PyData.str))), some (.d (.str (("p" : Str) ++ (⟨#[pc]⟩ : Str)))), some (.d (one c)), some (.d (.str me)), some (.d (.int 0)), e13, e14, e15, none] m5 = .ok true m5 := by
      have : (F.length : Int) < 6 := by omega
      simp [hlk, this]
    rw [ht]
    simp only [Res.noX_ok, Res.bind_ok, if_true]
    rw [M.exB_cons, u1, Res.bind_ok, M.nextF_next, M.exB_cons, u2, Res.bind_ok, M.nextF_next, M.exB_cons, u3, Res.bind_ok, M.nextF_next, M.exB_cons, u4, Res.bind_ok, M.nextF_next, M.exB_cons, w1]
    rfl
  · have ht : (sem (run T wf (n + 2)) (.band [(.cmp .eq (.var 12) (.cst (.int 0))), (.cmp .lt (.bi .len [(.var 5)]) (.op .sub (.var 1) (.cst (.int 1))))])).t [some (.mr k), some (.d (.int 7)), some (.d fgs), some (.d (.int i)), some (.mr m0.length), some (.mr (m0.length + 1)), some (.d (.list (ps.map one))), some (.d (.list (cs.map one))), some (.d (.tuple (rs.map PyData.str))), some (.d (.str (("p" : Str) ++ (⟨#[pc]⟩ : Str)))), some (.d (one c)), some (.d (.str me)), some (.d (.int so)), e13, e14, e15, none] m5 = .ok false m5 := by
      by_cases h0 : so = 0
      · have h6 : ¬ ((F.length : Int) < 6) := fun z => hA ⟨h0, by omega⟩
        simp [hlk, h0, h6]
      · simp [h0]
    by_cases h7 : F.length < 7
    · have h7' : (F.length : Int) < 7 := by omega
      have v1 : ∃ (cd : List (Str × Int)) (m6 : Mem), exS (run T wf (n + 2)) wf (.set 15 false (.ite (.cmp .eq (.var 12) (.cst (.int 1))) (.tup [(.tup [(.call 24 [(.var 0), (.var 2)]), (.call 22 [(.var 0), (.cst (.int 2))])])]) (.tup []))) [some (.mr k), some (.d (.int 7)), some (.d fgs), some (.d (.int i)), some (.mr m0.length), some (.mr (m0.length + 1)), some (.d (.list (ps.map one))), some (.d (.list (cs.map one))), some (.d (.tuple (rs.map PyData.str))), some (.d (.str (("p" : Str) ++ (⟨#[pc]⟩ : Str)))), some (.d (one c)), some (.d (.str me)), some (.d (.int so)), e13, e14, e15, none] m5 = .ok (.next [some (.mr k), some (.d (.int 7)), some (.d fgs), some (.d (.int i)), some (.mr m0.length), some (.mr (m0.length + 1)), some (.d (.list (ps.map one))), some (.d (.list (cs.map one))), some (.d (.tuple (rs.map PyData.str))), some (.d (.str (("p" : Str) ++ (⟨#[pc]⟩ : Str)))), some (.d (one c)), some (.d (.str me)), some (.d (.int so)), e13, e14, some (.d (encC cd)), none]) m6 ∧ (cd = [] ∨ ∃ f b, cd = [(f, b)] ∧ f ∈ FL ∧ (b = 0 ∨ b = 1)) ∧ Bx k (N + 20 * i + 1 + w + 1 + 1 + 2) m6 ∧ Up k m5 m6 := by
        by_cases h1 : so = 1
        · subst h1
          obtain ⟨yf, m6, p1, p2, p3, p4⟩ := sp_of wf n k _ m5 (.d fgs) fgs [.str "fa", .str "fb"] rfl (by simp) rfl (.inr rfl) hB5 (by omega) (by simp) (by simp)
          obtain ⟨fl, rfl, hfl⟩ : ∃ s, yf = .str s ∧ s ∈ FL := by
            simp only [List.mem_cons, List.not_mem_nil, or_false] at p2
            rcases p2 with rfl | rfl
            · exact ⟨_, rfl, by simp [FL]⟩
            · exact ⟨_, rfl, by simp [FL]⟩
          obtain ⟨r2, m7, q1, q2, q3, q4, q5⟩ := sp_take wf (n + 1) k _ m6 2 p3 (by omega) (by omega) (by omega)
          refine ⟨[(fl, r2)], m7, ?_, .inr ⟨fl, r2, rfl, hfl, by omega⟩, q4.mono (by omega), p4.trans q5⟩
          simp [p1, q1, encC]
        · refine ⟨[], m5, ?_, .inl rfl, hB5.mono (by omega), Up.refl _ _⟩
          simp [h1, encC]
      obtain ⟨cd, m6, v1, hcd, hB6, hU6⟩ := v1
      obtain ⟨l6, a6, f6, G6⟩ := J.up hk (hU5.trans hU6)
      let sC : Sp := ⟨tn c, me, rs, ("p" : Str) ++ (⟨#[pc]⟩ : Str), cd⟩
      have v2 : exS (run T wf (n + 2)) wf (.app 5 (.tup [(.op .add (.cst (.str "t")) (.var 10)), (.var 11), (.var 8), (.var 9), (.var 15)])) [some (.mr k), some (.d (.int 7)), some (.d fgs), some (.d (.int i)), some (.mr m0.length), some (.mr (m0.length + 1)), some (.d (.list (ps.map one))), some (.d (.list (cs.map one))), some (.d (.tuple (rs.map PyData.str))), some (.d (.str (("p" : Str) ++ (⟨#[pc]⟩ : Str)))), some (.d (one c)), some (.d (.str me)), some (.d (.int so)), e13, e14, some (.d (encC cd)), none] m6 = .ok (.next [some (.mr k), some (.d (.int 7)), some (.d fgs), some (.d (.int i)), some (.mr m0.length), some (.mr (m0.length + 1)), some (.d (.list (ps.map one))), some (.d (.list (cs.map one))), some (.d (.tuple (rs.map PyData.str))), some (.d (.str (("p" : Str) ++ (⟨#[pc]⟩ : Str)))), some (.d (one c)), some (.d (.str me)), some (.d (.int so)), e13, e14, some (.d (encC cd)), none]) (m6.set (m0.length + 1) ⟨false, F.map enc ++ [enc sC]⟩) :=
        appCell (i := 5) (j := m0.length + 1) (by simp) (by simp [h3]; rfl) f6 (by rw [List.length_map]; omega)
      have o1 : FoOk cs (i + 1) (F ++ [sC]) := J.ok.mono.push (by omega) ⟨c, hcm, .inl rfl⟩ hf1 hcd hrs
      obtain ⟨m', w1, w2'⟩ := tail e13 e14 (some (.d (encC cd))) (m6.set (m0.length + 1) ⟨false, F.map enc ++ [enc sC]⟩) (F ++ [sC]) 0 (.inr trivial) (by simp [l6]) (by rw [List.getElem?_set_ne (by omega)]; exact a6) (by rw [List.getElem?_set_self (by omega)]; simp) o1 ((hB6.put _ (by omega)).mono (by omega)) (G6.put _ (by omega))
      refine ⟨some (.d (.tuple (rs.map PyData.str))), some (.d (.str (("p" : Str) ++ (⟨#[pc]⟩ : Str)))), some (.d (one c)), some (.d (.str me)), some (.d (.int so)), e13, e14, some (.d (encC cd)), m', _, _, ?_, w2'⟩
      simp only [fB, b__law_form]
      rw [M.exB_cons, t1, Res.bind_ok, M.nextF_next, M.exB_cons, t2, Res.bind_ok, M.nextF_next, M.exB_cons, t3, Res.bind_ok, M.nextF_next, M.exB_cons, M.x_iff, ht]
      simp only [Res.noX_ok, Res.bind_ok, Bool.false_eq_true, if_false]
      rw [M.exB_cons, M.x_iff]
      have ht2 : (sem (run T wf (n + 2)) (.cmp .lt (.bi .len [(.var 5)]) (.var 1))).t [some (.mr k), some (.d (.int 7)), some (.d fgs), some (.d (.int i)), some (.mr m0.length), some (.mr (m0.length + 1)), some (.d (.list (ps.map one))), some (.d (.list (cs.map one))), some (.d (.tuple (rs.map PyData.str))), some (.d (.str (("p" : Str) ++ (⟨#[pc]⟩ : Str)))), some (.d (one c)), some (.d (.str me)), some (.d (.int so)), e13, e14, e15, none] m5 = .ok true m5 := by
        simp [hlk, h7']
      rw [ht2]
      simp only [Res.noX_ok, Res.bind_ok, if_true]
      rw [M.exB_cons, v1, Res.bind_ok, M.nextF_next, M.exB_cons, v2, Res.bind_ok, M.nextF_next, M.exB_cons, w1]
      rfl
    · have h7' : ¬ ((F.length : Int) < 7) := by omega
      refine ⟨some (.d (.tuple (rs.map PyData.str))), some (.d (.str (("p" : Str) ++ (⟨#[pc]⟩ : Str)))), some (.d (one c)), some (.d (.str me)), some (.d (.int so)), e13, e14, e15, m5, A, F, ?_, ⟨l5, a5, ⟨hAl.1, by omega⟩, f5, J.ok.mono, hB5.mono (by omega), G5⟩⟩
      simp only [fB, b__law_form]
      rw [M.exB_cons, t1, Res.bind_ok, M.nextF_next, M.exB_cons, t2, Res.bind_ok, M.nextF_next, M.exB_cons, t3, Res.bind_ok, M.nextF_next, M.exB_cons, M.x_iff, ht]
      simp only [Res.noX_ok, Res.bind_ok, Bool.false_eq_true, if_false]
      rw [M.exB_cons, M.x_iff]
      have ht2 : (sem (run T wf (n + 2)) (.cmp .lt (.bi .len [(.var 5)]) (.var 1))).t [some (.mr k), some (.d (.int 7)), some (.d fgs), some (.d (.int i)), some (.mr m0.length), some (.mr (m0.length + 1)), some (.d (.list (ps.map one))), some (.d (.list (cs.map one))), some (.d (.tuple (rs.map PyData.str))), some (.d (.str (("p" : Str) ++ (⟨#[pc]⟩ : Str)))), some (.d (one c)), some (.d (.str me)), some (.d (.int so)), e13, e14, e15, none] m5 = .ok false m5 := by
        simp [hlk, h7']
      rw [ht2]
      rfl
end Ra.K3


set_option Elab.async false
set_option linter.all false
set_option maxRecDepth 100000
set_option maxHeartbeats 1600000
namespace Ra.K3
open PySem M _root_.K1
def CS8 : List Nat := [97, 98, 99, 100, 101, 102, 103, 104]
theorem signs8 : signs ("abcdefgh" : Str) = CS8.map one := rfl
theorem cs8_nd : CS8.Nodup := by decide
theorem picked {ys rest : List PyData} (h : (ys ++ rest).Perm (CS8.map one)) (hl : ys.length = 7) : ∃ cs : List Nat, ys = cs.map one ∧ cs.Nodup ∧ cs.length = 7 := by
  obtain ⟨D, h1, h2⟩ := perm_map h rfl
  refine ⟨D.take 7, ?_, (h1.nodup_iff.mpr cs8_nd).sublist (List.take_sublist _ _), ?_⟩
  · rw [List.map_take, ← h2, List.take_append_of_le_length (by omega), List.take_of_length_le (by omega)]
  · rw [List.length_take, h1.length_eq]; rfl
abbrev envF (k L : Nat) (e3 : Option Val) (ps cs : List Nat) (e8 e9 e10 e11 e12 e13 e14 e15 : Option Val) : Env := [some (.mr k), some (.d (.int 7)), some (.d fgs), e3, some (.mr L), some (.mr (L + 1)), some (.d (.list (ps.map one))), some (.d (.list (cs.map one))), e8, e9, e10, e11, e12, e13, e14, e15, none]
theorem sp_form (wf n k N : Nat) (m : Mem) (hB : Bx k N m) (hN : N < 9000) : ∃ (P : List Sp) (m' : Mem), run T wf (n + 3) 28 [.mr k, .d (.int 7), .d fgs] m = .ok (.d (encP P)) m' ∧ W1 P ∧ Bx k (N + 200) m' ∧ Up k m m' := by
  have hk := hB.lt
  rw [run_succ (n := n + 2) d__law_form.fnT rfl rfl (by decide)]
  obtain ⟨m0', hm0'⟩ : ∃ z, z = m ++ [(⟨false, [.str "sa", .str "sb", .str "sc"]⟩ : Cell), ⟨false, []⟩] := ⟨_, rfl⟩
  have B0 : Bx k N m0' := by rw [hm0']; exact hB.app _
  have l0 : m0'.length = m.length + 2 := by rw [hm0']; simp
  have a0 : m0'[m.length]? = some ⟨false, ([("sa" : Str), "sb", "sc"]).map PyData.str⟩ := by rw [hm0']; exact at_new _ _ _
  have f0 : m0'[m.length + 1]? = some ⟨false, ([] : List Sp).map enc⟩ := by rw [hm0']; exact at_new1 _ _ _ _
  have g0' : Gr k m m0' := by rw [hm0']; exact Gr.app _ _ _
  obtain ⟨y1, m1, p1, p2, ⟨r1, p3⟩, p4, p5⟩ := sp_pick wf n k N 7 m0' (CS8.map one) B0 (by omega) (by simp [CS8]) (by simp [CS8])
  obtain ⟨y2, m2, q1, q2, ⟨r2, q3⟩, q4, q5⟩ := sp_pick wf n k (N + 7) 7 m1 (CS8.map one) p4 (by omega) (by simp [CS8]) (by simp [CS8])
  obtain ⟨ps, rfl, hps, hpl⟩ := picked p3 p2
  obtain ⟨cs, rfl, hcs, hcl⟩ := picked q3 q2
  obtain ⟨r, m3, a1, a2, a3, a4, a5⟩ := sp_take wf (n + 1) k (N + 7 + 7) m2 7 q4 (by omega) (by omega) (by omega)
  obtain ⟨c, rfl⟩ : ∃ c : Nat, r = c := ⟨r.toNat, by omega⟩
  have hU : Up k m0' m3 := (p5.trans q5).trans a5
  have J0 : FJ k (N + 15) m cs 0 m3 [("sa" : Str), "sb", "sc"] [] := ⟨hU.1.trans l0, (hU.2 _ (by omega)).trans a0, by simp, (hU.2 _ (by omega)).trans f0, ⟨by simp, by simp, by simp, by simp, by simp⟩, by simpa using a4, g0'.trans hU.gr⟩
  obtain ⟨env', m4, d1, e3, e8, e9, e10, e11, e12, e13, e14, e15, A, F, rfl, J⟩ := forLoop_inv (t := .nm 3) (body := exB (run T wf (n + 2)) wf fB) (gs := [])
    (fun i env m' => ∃ e3 e8 e9 e10 e11 e12 e13 e14 e15 A F, env = envF k m.length e3 ps cs e8 e9 e10 e11 e12 e13 e14 e15 ∧ FJ k (N + 15) m cs i m' A F) (xs := rangeD 0 (1 + c)) 0 (env := envF k m.length none ps cs none none none none none none none none) (m := m3) (by
      rintro i x hx env m' ⟨e3, e8, e9, e10, e11, e12, e13, e14, e15, A, F, rfl, J⟩
      obtain ⟨rfl, hi⟩ := rangeD_at (1 + c) 0 i x hx
      rw [Nat.zero_add] at J ⊢
      obtain ⟨f8, f9, f10, f11, f12, f13, f14, f15, m'', A', F', w1, w2⟩ := fo_step wf n k (N + 15) m m' hk (by omega) ps cs hcs hpl hcl i (by omega) A F J e8 e9 e10 e11 e12 e13 e14 e15
      refine ⟨envF k m.length (some (.d (.int i))) ps cs e8 e9 e10 e11 e12 e13 e14 e15, _, m'', ?_, w1, rfl, _, f8, f9, f10, f11, f12, f13, f14, f15, A', F', rfl, w2⟩
      simp) ⟨none, none, none, none, none, none, none, none, none, _, _, rfl, J0⟩
  rw [Nat.zero_add, rangeD_len] at J
  have hlk : lookAll m4 [.mr (m.length + 1)] = some [.list (F.map enc)] := lookAll_mr _ J.f _
  obtain ⟨Q, s1, s2, s3⟩ := sort_encs J.ok.nd
  refine ⟨Q, m4.take m.length, ?_, J.ok.w1 s2 s3, (J.B.cut hk).mono (by omega), J.G.up⟩
  have hw := M.walk_range (n := 1 + c) (by omega)
  generalize rangeD 0 (1 + c) = rr at d1 hw
  have hb : bop .add (.int 1) (.int c) = some (.d (.int ((1 + c : Nat) : Int))) := by
    show some (Val.d (.int (1 + (c : Int)))) = _
    congr 3
  have t0 : exS (run T wf (n + 2)) wf (.par [(4, true), (5, true)] [(.lst [(.cst (.str "sa")), (.cst (.str "sb")), (.cst (.str "sc"))]), (.lst [])]) [some (.mr k), some (.d (.int 7)), some (.d fgs), none, none, none, none, none, none, none, none, none, none, none, none, none, none] m = .ok (.next [some (.mr k), some (.d (.int 7)), some (.d fgs), none, some (.mr m.length), some (.mr (m.length + 1)), none, none, none, none, none, none, none, none, none, none, none]) m0' := by
    rw [hm0']
    simp
  have t1 : exS (run T wf (n + 2)) wf (.par [(6, false), (7, false)] [(.call 25 [(.var 0), (.bi .list [(.cst (.str "abcdefgh"))]), (.var 1)]), (.call 25 [(.var 0), (.bi .list [(.cst (.str "abcdefgh"))]), (.var 1)])]) [some (.mr k), some (.d (.int 7)), some (.d fgs), none, some (.mr m.length), some (.mr (m.length + 1)), none, none, none, none, none, none, none, none, none, none, none] m0' = .ok (.next (envF k m.length none ps cs none none none none none none none none)) m2 := by
    have p1' : run T wf (n + 2) 25 [.mr k, .d (.list (CS8.map one)), .d (.int 7)] m0' = _ := p1
    have q1' : run T wf (n + 2) 25 [.mr k, .d (.list (CS8.map one)), .d (.int 7)] m1 = _ := q1
    simp only [M.x_par, M.parV_cons, M.parV_nil, M.v_call, M.cArgs_cons, M.cArgs_nil, M.v_var, M.getV_zero, M.getV_succ, optR_some, Res.bind_ok, M.v_bi, M.v_cst, M.nf_d, M.nf_mr, M.lookAll_d, M.lookAll_nil, Option.map_some, M.bi_list, M.listD_str, signs8, M.nf_fr, p1', q1', M.stored_f, Res.noX_ok, M.setAll_cons, M.setAll_nil, List.length_cons, List.length_nil]
    simp
  have t2 : exS (run T wf (n + 2)) wf (.for (.nm 3) .range [(.op .add (.cst (.int 1)) (.call 22 [(.var 0), (.var 1)]))] fB) (envF k m.length none ps cs none none none none none none none none) m2 = .ok (.next (envF k m.length e3 ps cs e8 e9 e10 e11 e12 e13 e14 e15)) m4 := by
    simp [a1, hb, -Int.natCast_add, -addI]
    rw [hw]
    simp
    exact d1
  have t3 : exS (run T wf (n + 2)) wf (.ret (.bi .tuple [(.bi .sorted [(.var 5)])])) (envF k m.length e3 ps cs e8 e9 e10 e11 e12 e13 e14 e15) m4 = .ok (.ret (.d (encP Q))) m4 := by
    simp [hlk, sortedD, s1, encP]
  have hbd : exB (run T wf (n + 2)) wf d__law_form.fnT.body (List.map some [Val.mr k, .d (.int 7), .d fgs] ++ List.replicate (d__law_form.fnT.n - d__law_form.fnT.ps) none) m = .ok (.ret (.d (encP Q))) m4 := by
    show exB (run T wf (n + 2)) wf [_, _, (.for (.nm 3) .range _ fB), _] [some (.mr k), some (.d (.int 7)), some (.d fgs), none, none, none, none, none, none, none, none, none, none, none, none, none, none] m = _
    rw [M.exB_cons, t0, Res.bind_ok, M.nextF_next, M.exB_cons, t1, Res.bind_ok, M.nextF_next, M.exB_cons, t2, Res.bind_ok, M.nextF_next, M.exB_cons, t3]
    rfl
  rw [hbd]
  simp
theorem sp_right (wf n k : Nat) (m : Mem) (hB : Bx k 0 m) : ∃ m', run T wf (n + 11) 34 [.mr k] m = .ok (.d (.bool true)) m' ∧ Up k m m' := by
  rw [run_succ (n := n + 10) d__law_right.fnT rfl rfl (by decide)]
  obtain ⟨ys, m', h1, h2, h3, h4, h5⟩ := lcLoop_inv (t := .nm 1) (elt := sem (run T wf (n + 10)) (.call 31 [(.call 28 [(.var 0), (.cst (.int 7)), (.tup [(.cst (.str "fa")), (.cst (.str "fb"))])])])) (gs := []) (env := [some (.mr k), none]) (fun i m' => Bx k (200 * i) m' ∧ Up k m m') (fun y => y = .bool true) (xs := rangeD 0 3) 0 (m := m) (by
    rintro i x hx m1 ⟨hB1, hU1⟩
    obtain ⟨rfl, hi⟩ := rangeD_at 3 0 i x hx
    rw [Nat.zero_add] at hB1 ⊢
    obtain ⟨P, m2, w1, w2, w3, w4⟩ := sp_form wf (n + 7) k (200 * i) m1 hB1 (by omega)
    have w5 := case_right w2 wf (n + 10) (by omega) m2
    have w1' : run T wf (n + 10) 28 [.mr k, .d (.int 7), .d (.tuple [.str "fa", .str "fb"])] m1 = .ok (.d (encP P)) m2 := w1
    refine ⟨[some (.mr k), some (.d (.int i))], .d (.bool true), m2, .bool true, m2, by simp, by simp [w1', w5], by simp, by simp, ⟨by rw [show 200 * (i + 1) = 200 * i + 200 by omega]; exact w3, hU1.trans w4⟩, rfl⟩) ⟨by simpa using hB, Up.refl _ _⟩
  refine ⟨m', ?_, h5⟩
  have hw3 := M.walk_range (n := 3) (by omega)
  rw [show ((3 : Nat) : Int) = 3 from rfl] at hw3
  generalize rangeD 0 3 = rr at h1 hw3 h2
  have hys : ys = ys.map fun _ => PyData.bool true := by
    clear h1 h2
    induction ys with
    | nil => rfl
    | cons y r ih => rw [List.map_cons, ← ih fun z hz => h3 z (List.mem_cons_of_mem _ hz), h3 y List.mem_cons_self]
  have hA := all_true ys
  rw [← hys] at hA
  have h1' : lcLoop (.nm 1) (sems (run T wf (n + 10)) []) (sem (run T wf (n + 10)) (.call 31 [(.call 28 [(.var 0), (.cst (.int 7)), (.tup [(.cst (.str "fa")), (.cst (.str "fb"))])])])) [] [some (.mr k), none] rr m = .ok ys m' := h1
  simp [d__law_right, Df.fnT, b__law_right]
  rw [hw3]
  simp
  rw [h1']
  simp [hA, ← h5.1]
theorem hand : ∃ b, run T 1000 29 32 [] [] = .ok b [] ∧ b = .d (.bool true) := by
  have h : (match run T 1000 29 32 [] [] with | .ok (.d (.bool true)) [] => true | _ => false) = true := by decide +kernel
  split at h
  · rename_i e
    exact ⟨_, e, rfl⟩
  · cases h
theorem spec0 (ns : List Int) (h : ns.length ≤ 63) : ∃ m, run T 1000 30 35 [.d (.list (ns.map PyData.int))] [] = .ok (.d (.bool true)) m := by
  refine ⟨[], ?_⟩
  rw [run_succ (n := 29) d_law.fnT rfl rfl (by decide)]
  obtain ⟨b, hh, rfl⟩ := hand
  obtain ⟨cs, h1, h2, h3⟩ := sp_cells 1000 28 ns h []
  have hl : (cs.map PyData.int).length = cs.length := by simp
  have hw := M.walk_range (n := cs.length) (by omega)
  simp [d_law, Df.fnT, b_law, hh, h1]
  rw [hw]
  simp
  rw [lcLoop_map (fun _ => .bool true) rfl]
  · have := all_true (rangeD 0 cs.length)
    simp only [Res.bind_ok, M.nf_fr, M.lookAll_d, M.lookAll_nil, Option.map_some, optR_some, this]
    simp
  · intro x hx
    obtain ⟨i, hi⟩ := List.mem_iff_getElem?.mp hx
    obtain ⟨rfl, hlt⟩ := rangeD_at cs.length 0 i x hi
    obtain ⟨a, b, q1, q2, q3, q4⟩ := sp_box 1000 28 i cs [] hlt h3
    obtain ⟨m', r1, r2⟩ := sp_right 1000 18 0 [⟨false, [.int a, .int b, .int 0]⟩] ⟨a, b, 0, rfl, q2, q3, q4, by omega, by omega⟩
    simp [q1, r1]
end Ra.K3
namespace K1
open PySem Ra
theorem spec (ns : List Int) (h : ns.length ≤ 63) : ∃ m, run (D.map Df.fnT) 1000 30 35 [.d (.list (ns.map PyData.int))] [] = .ok (.d (.bool true)) m := Ra.K3.spec0 ns h
end K1


set_option Elab.async false
set_option linter.all false
set_option maxRecDepth 100000
set_option maxHeartbeats 0
namespace K1
open PySem PySem.Spec PyProof.Rows L2 Ra
abbrev fa : List He.Fa := faOfD D free glo xs
abbrev fn : List He.DefD := fnOfD D
abbrev R : PySem.W.OpenRow := PySem.W.OpenLaw.row PySem.Challenge.rw_reportalike_k01_what_runs_at_a_variant
abbrev hk : PySem.W.Hook := hookN 4 R.prog.main.file fa fn xs
def ob (s : PySem.W.SharedT) : He.AlD × Bool := obN 4 R.prog.main.file fa fn xs (HandSHeadRun.getT s)
theorem ob_eq (s : PySem.W.SharedT) : ob s = hk.obs s.abs := obN_eq (HandSHeadRun.getT_eq s)
def loose : List Str := ([("NoStep" : Str), ("Twice" : Str), ("is_number" : Str), ("is_name" : Str), ("tupled" : Str), ("rises" : Str), ("set_of" : Str), ("is_condition" : Str), ("is_step" : Str), ("is_plan" : Str), ("holds" : Str), ("running" : Str), ("step_of" : Str), ("flags_in" : Str), ("methods_in" : Str), ("sheets_in" : Str), ("variants_of" : Str), ("made_at" : Str), ("counts_needed" : Str), ("maker" : Str), ("with_step" : Str), ("without_step" : Str), ("renamed_sheets" : Str), ("_law_box" : Str), ("_law_take" : Str), ("_law_cells" : Str), ("_law_of" : Str), ("_law_pick" : Str), ("_law_lists" : Str), ("_law_same" : Str), ("_law_form" : Str), ("_law_heard" : Str), ("_law_holds" : Str), ("_law_case_right" : Str), ("_law_hand_right" : Str), ("_law_odd_right" : Str), ("_law_right" : Str), ("LETTERS" : Str)] : List Str)
theorem run (w : World) : HandSHeadRun.RunEq R (PySem.W.view R.prog [42]) hk ob 4000 loose w := by
  intro os
  kernel_rfl
theorem bn_is_number : BndD d_is_number := ⟨fun _ _ _ _ _ _ _ _ _ _ us h => match us, h with | [_], _ => rfl, List.forall_mem_nil _⟩
theorem bn_is_name : BndD d_is_name := ⟨fun _ _ _ _ _ _ _ _ _ _ us h => match us, h with | [_], _ => rfl, List.forall_mem_nil _⟩
theorem bn_tupled : BndD d_tupled := ⟨fun _ _ _ _ _ _ _ _ _ _ us h => match us, h with | [_], _ => rfl, List.forall_mem_nil _⟩
theorem bn_rises : BndD d_rises := ⟨fun _ _ _ _ _ _ _ _ _ _ us h => match us, h with | [_], _ => rfl, List.forall_mem_nil _⟩
theorem bn_set_of : BndD d_set_of := ⟨fun _ _ _ _ _ _ _ _ _ _ us h => match us, h with | [_], _ => rfl, List.forall_mem_nil _⟩
theorem bn_is_condition : BndD d_is_condition := ⟨fun _ _ _ _ _ _ _ _ _ _ us h => match us, h with | [_], _ => rfl, List.forall_mem_nil _⟩
theorem bn_is_step : BndD d_is_step := ⟨fun _ _ _ _ _ _ _ _ _ _ us h => match us, h with | [_], _ => rfl, List.forall_mem_nil _⟩
theorem bn_is_plan : BndD d_is_plan := ⟨fun _ _ _ _ _ _ _ _ _ _ us h => match us, h with | [_], _ => rfl, List.forall_mem_nil _⟩
theorem bn_holds : BndD d_holds := ⟨fun _ _ _ _ _ _ _ _ _ _ us h => match us, h with | [_, _], _ => rfl, List.forall_mem_cons.mpr ⟨fun _ _ _ _ _ _ _ _ _ _ us h => match us, h with | [_, _], _ => rfl, List.forall_mem_nil _⟩⟩
theorem bn_running : BndD d_running := ⟨fun _ _ _ _ _ _ _ _ _ _ us h => match us, h with | [_, _], _ => rfl, List.forall_mem_cons.mpr ⟨fun _ _ _ _ _ _ _ _ _ _ us h => match us, h with | [_, _], _ => rfl, List.forall_mem_nil _⟩⟩
theorem bn_step_of : BndD d_step_of := ⟨fun _ _ _ _ _ _ _ _ _ _ us h => match us, h with | [_, _], _ => rfl, List.forall_mem_cons.mpr ⟨fun _ _ _ _ _ _ _ _ _ _ us h => match us, h with | [_, _], _ => rfl, List.forall_mem_nil _⟩⟩
theorem bn_flags_in : BndD d_flags_in := ⟨fun _ _ _ _ _ _ _ _ _ _ us h => match us, h with | [_], _ => rfl, List.forall_mem_cons.mpr ⟨fun _ _ _ _ _ _ _ _ _ _ us h => match us, h with | [_], _ => rfl, List.forall_mem_nil _⟩⟩
theorem bn_methods_in : BndD d_methods_in := ⟨fun _ _ _ _ _ _ _ _ _ _ us h => match us, h with | [_], _ => rfl, List.forall_mem_cons.mpr ⟨fun _ _ _ _ _ _ _ _ _ _ us h => match us, h with | [_], _ => rfl, List.forall_mem_nil _⟩⟩
theorem bn_sheets_in : BndD d_sheets_in := ⟨fun _ _ _ _ _ _ _ _ _ _ us h => match us, h with | [_], _ => rfl, List.forall_mem_cons.mpr ⟨fun _ _ _ _ _ _ _ _ _ _ us h => match us, h with | [_], _ => rfl, List.forall_mem_nil _⟩⟩
theorem bn_variants_of : BndD d_variants_of := ⟨fun _ _ _ _ _ _ _ _ _ _ us h => match us, h with | [_], _ => rfl, List.forall_mem_cons.mpr ⟨fun _ _ _ _ _ _ _ _ _ _ us h => match us, h with | [_], _ => rfl, List.forall_mem_nil _⟩⟩
theorem bn_made_at : BndD d_made_at := ⟨fun _ _ _ _ _ _ _ _ _ _ us h => match us, h with | [_, _], _ => rfl, List.forall_mem_cons.mpr ⟨fun _ _ _ _ _ _ _ _ _ _ us h => match us, h with | [_, _], _ => rfl, List.forall_mem_nil _⟩⟩
theorem bn_counts_needed : BndD d_counts_needed := ⟨fun _ _ _ _ _ _ _ _ _ _ us h => match us, h with | [_, _], _ => rfl, List.forall_mem_cons.mpr ⟨fun _ _ _ _ _ _ _ _ _ _ us h => match us, h with | [_, _], _ => rfl, List.forall_mem_nil _⟩⟩
theorem bn_maker : BndD d_maker := ⟨fun _ _ _ _ _ _ _ _ _ _ us h => match us, h with | [_, _, _], _ => rfl, List.forall_mem_cons.mpr ⟨fun _ _ _ _ _ _ _ _ _ _ us h => match us, h with | [_, _, _], _ => rfl, List.forall_mem_nil _⟩⟩
theorem bn_with_step : BndD d_with_step := ⟨fun _ _ _ _ _ _ _ _ _ _ us h => match us, h with | [_, _], _ => rfl, List.forall_mem_cons.mpr ⟨fun _ _ _ _ _ _ _ _ _ _ us h => match us, h with | [_, _], _ => rfl, List.forall_mem_nil _⟩⟩
theorem bn_without_step : BndD d_without_step := ⟨fun _ _ _ _ _ _ _ _ _ _ us h => match us, h with | [_, _], _ => rfl, List.forall_mem_cons.mpr ⟨fun _ _ _ _ _ _ _ _ _ _ us h => match us, h with | [_, _], _ => rfl, List.forall_mem_nil _⟩⟩
theorem bn_renamed_sheets : BndD d_renamed_sheets := ⟨fun _ _ _ _ _ _ _ _ _ _ us h => match us, h with | [_, _], _ => rfl, List.forall_mem_cons.mpr ⟨fun _ _ _ _ _ _ _ _ _ _ us h => match us, h with | [_, _], _ => rfl, List.forall_mem_nil _⟩⟩
theorem bn__law_box : BndD d__law_box := ⟨fun _ _ _ _ _ _ _ _ _ _ us h => match us, h with | [_, _], _ => rfl, List.forall_mem_nil _⟩
theorem bn__law_take : BndD d__law_take := ⟨fun _ _ _ _ _ _ _ _ _ _ us h => match us, h with | [_, _], _ => rfl, List.forall_mem_nil _⟩
theorem bn__law_cells : BndD d__law_cells := ⟨fun _ _ _ _ _ _ _ _ _ _ us h => match us, h with | [_, _], _ => rfl, List.forall_mem_nil _⟩
theorem bn__law_of : BndD d__law_of := ⟨fun _ _ _ _ _ _ _ _ _ _ us h => match us, h with | [_, _], _ => rfl, List.forall_mem_nil _⟩
theorem bn__law_pick : BndD d__law_pick := ⟨fun _ _ _ _ _ _ _ _ _ _ us h => match us, h with | [_, _, _], _ => rfl, List.forall_mem_nil _⟩
theorem bn__law_lists : BndD d__law_lists := ⟨fun _ _ _ _ _ _ _ _ _ _ us h => match us, h with | [_], _ => rfl, List.forall_mem_nil _⟩
theorem bn__law_same : BndD d__law_same := ⟨fun _ _ _ _ _ _ _ _ _ _ us h => match us, h with | [_, _], _ => rfl, List.forall_mem_nil _⟩
theorem bn__law_form : BndD d__law_form := ⟨fun _ _ _ _ _ _ _ _ _ _ us h => match us, h with | [_, _, _], _ => rfl, List.forall_mem_nil _⟩
theorem bn__law_heard : BndD d__law_heard := ⟨fun _ _ _ _ _ _ _ _ _ _ us h => match us, h with | [_, _, _], _ => rfl, List.forall_mem_nil _⟩
theorem bn__law_holds : BndD d__law_holds := ⟨fun _ _ _ _ _ _ _ _ _ _ us h => match us, h with | [_, _], _ => rfl, List.forall_mem_nil _⟩
theorem bn__law_case_right : BndD d__law_case_right := ⟨fun _ _ _ _ _ _ _ _ _ _ us h => match us, h with | [_], _ => rfl, List.forall_mem_nil _⟩
theorem bn__law_hand_right : BndD d__law_hand_right := ⟨fun _ _ _ _ _ _ _ _ _ _ us h => match us, h with | [], _ => rfl, List.forall_mem_nil _⟩
theorem bn__law_odd_right : BndD d__law_odd_right := ⟨fun _ _ _ _ _ _ _ _ _ _ us h => match us, h with | [], _ => rfl, List.forall_mem_nil _⟩
theorem bn__law_right : BndD d__law_right := ⟨fun _ _ _ _ _ _ _ _ _ _ us h => match us, h with | [_], _ => rfl, List.forall_mem_nil _⟩
theorem bn_law : BndD d_law := ⟨fun _ _ _ _ _ _ _ _ _ _ us h => match us, h with | [_], _ => rfl, List.forall_mem_nil _⟩
theorem bnds : ∀ d ∈ D, BndD d := List.forall_mem_cons.mpr ⟨bn_is_number, List.forall_mem_cons.mpr ⟨bn_is_name, List.forall_mem_cons.mpr ⟨bn_tupled, List.forall_mem_cons.mpr ⟨bn_rises, List.forall_mem_cons.mpr ⟨bn_set_of, List.forall_mem_cons.mpr ⟨bn_is_condition, List.forall_mem_cons.mpr ⟨bn_is_step, List.forall_mem_cons.mpr ⟨bn_is_plan, List.forall_mem_cons.mpr ⟨bn_holds, List.forall_mem_cons.mpr ⟨bn_running, List.forall_mem_cons.mpr ⟨bn_step_of, List.forall_mem_cons.mpr ⟨bn_flags_in, List.forall_mem_cons.mpr ⟨bn_methods_in, List.forall_mem_cons.mpr ⟨bn_sheets_in, List.forall_mem_cons.mpr ⟨bn_variants_of, List.forall_mem_cons.mpr ⟨bn_made_at, List.forall_mem_cons.mpr ⟨bn_counts_needed, List.forall_mem_cons.mpr ⟨bn_maker, List.forall_mem_cons.mpr ⟨bn_with_step, List.forall_mem_cons.mpr ⟨bn_without_step, List.forall_mem_cons.mpr ⟨bn_renamed_sheets, List.forall_mem_cons.mpr ⟨bn__law_box, List.forall_mem_cons.mpr ⟨bn__law_take, List.forall_mem_cons.mpr ⟨bn__law_cells, List.forall_mem_cons.mpr ⟨bn__law_of, List.forall_mem_cons.mpr ⟨bn__law_pick, List.forall_mem_cons.mpr ⟨bn__law_lists, List.forall_mem_cons.mpr ⟨bn__law_same, List.forall_mem_cons.mpr ⟨bn__law_form, List.forall_mem_cons.mpr ⟨bn__law_heard, List.forall_mem_cons.mpr ⟨bn__law_holds, List.forall_mem_cons.mpr ⟨bn__law_case_right, List.forall_mem_cons.mpr ⟨bn__law_hand_right, List.forall_mem_cons.mpr ⟨bn__law_odd_right, List.forall_mem_cons.mpr ⟨bn__law_right, List.forall_mem_cons.mpr ⟨bn_law, List.forall_mem_nil _⟩⟩⟩⟩⟩⟩⟩⟩⟩⟩⟩⟩⟩⟩⟩⟩⟩⟩⟩⟩⟩⟩⟩⟩⟩⟩⟩⟩⟩⟩⟩⟩⟩⟩⟩⟩
theorem xbs : ∀ n ∈ xs, ∀ f, n.fd = some f → XBnd f := List.forall_mem_cons.mpr ⟨fun f h => Option.some.inj h ▸ fun _ _ _ _ _ _ _ _ _ _ _ _ _ _ _ _ _ _ _ _ _ => rfl, List.forall_mem_cons.mpr ⟨fun f h => Option.some.inj h ▸ fun _ _ _ _ _ _ _ _ _ _ _ _ _ _ _ _ _ _ _ _ _ => rfl, List.forall_mem_nil _⟩⟩
end K1
open PySem PySem.W PySem.Calls PyProof.Rows Ra
theorem PySem.Challenge.cw_reportalike_k01_what_runs_at_a_variant_holds : PySem.Challenge.rw_reportalike_k01_what_runs_at_a_variant.Holds := by
  w_on; o_law
  refine HandSHeadRun.head_any (r := K1.R) (q := view K1.R.prog [42]) (H := K1.hk) (ob := K1.ob) (M := 4000) (loose := K1.loose) (d := HandSHeadRun.topDef K1.R.prog 42) (kwd := []) K1.ob_eq
    (by kernel_rfl) (fun s => by kernel_rfl) K1.run (by kernel_rfl) (by kernel_rfl) (by kernel_rfl) (by rfl) (by first | assumption | decide +kernel) (by decide +kernel) ⟨rfl, rfl, rfl, rfl, rfl, by decide +kernel⟩ ?hw ?hc
  case hw => w_witness2
  case hc =>
    refine L2.walk_ofE (l := PySem.Challenge.rw_reportalike_k01_what_runs_at_a_variant) (n := 63) (k := 30) (x := "_law_script") (CX := Ra.CXe (PySem.Challenge.rw_reportalike_k01_what_runs_at_a_variant).prog) rfl (by decide) (by kernel_rfl) ⟨rfl, by decide, by decide⟩ ?F (fun _ _ _ _ z => Ra.cxe_none z)
    intro w mg fa h Y G hmg0
    obtain ⟨K, KX, c, hNx⟩ := Y
    obtain ⟨hN, hxc⟩ := Bool.and_eq_true_iff.mp hNx
    have hmg : mg ("law" : PySem.Str) = some (.ref fa) := by
      rw [← show (HandSHeadRun.topDef K1.R.prog 42).name = ("law" : PySem.Str) by kernel_rfl]
      exact hmg0
    obtain ⟨fd, hb, hF⟩ := head_ok (P := (PySem.Challenge.rw_reportalike_k01_what_runs_at_a_variant).prog) (w := w) (D := K1.D) (free := K1.free) (glo := K1.glo) (xs := K1.xs) 1000 30 KX G c hxc K1.xbs (by decide +kernel) K1.bnds (by decide +kernel) K1.chk (l := 35) (dl := K1.d_law) rfl hmg (x := "_law_script") rfl
    exact ⟨K, fd, _, KX, hb, fun H a ns hl hO hS => ⟨rfl, fun hz => sp_end hN hO hz hS (K1.spec ns hl)⟩, fun base _ _ => hF base⟩

